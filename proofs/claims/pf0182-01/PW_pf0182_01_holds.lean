import PyProof.Rows.All
import Wide.All
import OpenK.AllK
import Wide.FinOn
import Lean
import PySem.Challenge.RW_pf0182_01
open PySem PySem.W PyProof.Rows
set_option Elab.async false
set_option maxRecDepth 100000
section
namespace Mine

/-- the codes whose presence on the stack keeps a bytearray from being resized -/
def badIds : List String := ["bytearray.__contains__", "bytearray.__mod__", "bytearray.__rmod__", "_struct.pack_into.held", "bytearray.find.held"] ++ Builtin.Bytes.decodersThatHold
def tame : Code → Bool
  | .builtin id _ => !badIds.contains id
  | _ => true
/-- no such code runs -/
def NoDec (Γ : Ctx) : Prop := tame Γ.code = true ∧ ∀ x ∈ Γ.below, tame x.1 = true
theorem NoDec.enter {Γ : Ctx} {c : Code} {h : Option Value} {p : Pos} (n : NoDec Γ) (hc : tame c = true) : NoDec (Γ.enter c h p) :=
  ⟨hc, fun x hx => by
    rcases List.mem_cons.mp hx with rfl | hx
    · exact n.1
    · exact n.2 x hx⟩
theorem NoDec.goto {Γ : Ctx} {c : Code} (n : NoDec Γ) (hc : tame c = true) : NoDec (Γ.goto c) := ⟨hc, n.2⟩

def wpN {α : Type} (M : Model) (A : Around) (t : Sem α) (Q : α → Shared → Prop) (E : Value → Shared → Prop) (s : Shared) : Prop :=
  ∀ Γ p, Γ.In A → NoDec Γ → Sem.wp M Γ t (fun a _ s' => Q a s') (fun e _ s' => E e s') p s
def codeN (M : Model) (A : Around) (c : Code) (R : Result → Shared → Prop) (s : Shared) : Prop :=
  ∀ Γ p, Γ.code = c → Γ.Below A → NoDec Γ → wpCode M Γ R p s

section
variable {α β : Type} {M : Model} {A : Around} {E : Value → Shared → Prop} {s : Shared}
theorem wpN.of {t : Sem α} {Q : α → Shared → Prop} (h : wpAny M A t Q E s) : wpN M A t Q E s := fun Γ p hΓ _ => h Γ p hΓ
theorem codeN.of {c : Code} {R : Result → Shared → Prop} (h : codeAny M A c R s) : codeN M A c R s := fun Γ p hc hΓ _ => h Γ p hc hΓ
theorem wpN_pure {a : α} {Q : α → Shared → Prop} (h : Q a s) : wpN M A (pure a) Q E s := fun _ _ _ _ => h
theorem wpN_mono {t : Sem α} {Q Q' : α → Shared → Prop} {E' : Value → Shared → Prop} (h : wpN M A t Q E s)
    (hQ : ∀ a s, Q a s → Q' a s) (hE : ∀ e s, E e s → E' e s) : wpN M A t Q' E' s :=
  fun Γ p hΓ hN => Sem.wp_mono M Γ t (fun a _ s => hQ a s) (fun e _ s => hE e s) p s (h Γ p hΓ hN)
theorem wpN_bind {m : Sem α} {f : α → Sem β} {Q : β → Shared → Prop} (h : wpN M A m (fun a s' => wpN M A (f a) Q E s') E s) : wpN M A (m >>= f) Q E s :=
  fun Γ p hΓ hN => by
    rw [Sem.wp_bind']
    exact Sem.wp_mono M Γ m (fun a p' s' h' => h' Γ p' hΓ hN) (fun _ _ _ h' => h') p s (h Γ p hΓ hN)
/-- a first part that needs nothing of the stack -/
theorem wpA_bind {m : Sem α} {f : α → Sem β} {Q : β → Shared → Prop} (h : wpAny M A m (fun a s' => wpN M A (f a) Q E s') E s) : wpN M A (m >>= f) Q E s := wpN_bind (.of h)
/-- a last part that needs nothing of the stack -/
theorem wpN_bindA {m : Sem α} {f : α → Sem β} {Q : β → Shared → Prop} (h : wpN M A m (fun a s' => wpAny M A (f a) Q E s') E s) : wpN M A (m >>= f) Q E s :=
  wpN_bind (wpN_mono h (fun _ _ x => .of x) fun _ _ x => x)
theorem wpN_onRaise {m : Sem α} {k : Value → Sem Unit} {Q : α → Shared → Prop}
    (h : wpN M A m Q (fun e s' => wpAny M A (k e) (fun _ s'' => E e s'') E s') s) : wpN M A (m.onRaise k) Q E s := fun Γ p hΓ hN => by
  rw [Sem.wp_onRaise]
  exact Sem.wp_mono M Γ m (fun _ _ _ h' => h') (fun e p' s' h' => h' Γ p' hΓ) p s (h Γ p hΓ hN)
theorem wpN_holding {vs : List Value} {m : Sem α} {Q : α → Shared → Prop} (h : wpN M A m Q E s) : wpN M A (holding vs m) Q E s :=
  fun Γ p hΓ hN => by rw [Sem.wp_holding]; exact h Γ p hΓ hN
theorem wpN_keep {vs : List Value} {m : Sem α} {Q : α → Shared → Prop} (h : wpN M A m Q E s) : wpN M A (m.keep vs) Q E s :=
  fun Γ p hΓ hN => by rw [Sem.wp_keep]; exact h Γ p hΓ hN
theorem wpN_standAt {pos : Pos} {Q : Unit → Shared → Prop} (h : Q () s) : wpN M A (standAt pos) Q E s := fun _ _ _ _ => h
theorem wpN_run {c : Code} {h : Option Value} {Q : Flow → Shared → Prop}
    (hc : codeN M (A.mark h) c (fun r s' => match r with | .ok f => Q f s' | .error e => E e s') s) (ht : tame c = true := by rfl) (hnb : h ≠ some byPass := by intro x; cases x) :
    wpN M A (run c h) Q E s :=
  fun Γ p hΓ hN => by rw [Sem.wp_run]; exact hc _ p rfl (hΓ.enter c h p hnb) (hN.enter ht)
theorem wpN_call {f : Value} {pos : List Value} {kw : List (Str × Value)} {Q : Value → Shared → Prop}
    (hc : codeN M A (.call f ⟨pos, kw⟩) (fun r s' => match r with | .ok (.ret v) => Q v s' | .ok _ => False | .error e => E e s') s) :
    wpN M A (call f pos kw) Q E s := fun Γ p hΓ hN => by
  show Sem.wp M Γ (runValue (.call f ⟨pos, kw⟩)) _ _ p s
  rw [Sem.wp_runValue]; exact hc _ p rfl (hΓ.enter _ none p (by intro x; cases x)) (hN.enter rfl)
theorem codeN_mono {c : Code} {R R' : Result → Shared → Prop} (h : codeN M A c R s) (hR : ∀ r s, R r s → R' r s) : codeN M A c R' s :=
  fun Γ p hc hΓ hN => wpCode_mono hR (h Γ p hc hΓ hN)
theorem codeN_of_tree {c : Code} {R : Result → Shared → Prop}
    (h : wpN M (A.under c) (M.den c) (fun fin s' => match fin with | .done f => R (.ok f) s' | .again c' => c'.quiet = true ∧ tame c' = true ∧ codeN M A c' R s')
      (fun e s' => R (.error e) s') s) : codeN M A c R s := fun Γ p hc hΓ hN => by
  rw [wpCode_iff_wp, hc]
  refine Sem.wp_mono M Γ _ (fun fin p' s' h' => ?_) (fun _ _ _ h' => h') p s (h Γ p (hc ▸ hΓ.in) hN)
  cases fin with
  | done f => exact h'
  | again c' => exact ⟨h'.1, h'.2.2 (Γ.goto c') p' rfl (hΓ.goto c') (hN.goto h'.2.1)⟩
end

section
variable {prog : Program} {w : World} {A : Around} {E : Value → Shared → Prop} {s : Shared} {env : Env}
theorem codeN_builtin {R : Result → Shared → Prop} {id : String} {args : Args} {b : Builtin} (entry : entryFor table id = some b)
    (h : wpN (model prog w) (A.under (.builtin id args)) (b args) (fun fin s' => match fin with | .done f => R (.ok f) s' | .again c' => c'.quiet = true ∧ tame c' = true ∧ codeN (model prog w) A c' R s') (fun e s' => R (.error e) s') s) :
    codeN (model prog w) A (.builtin id args) R s := by
  have tree : (model prog w).den (.builtin id args) = b args := by
    show (match entryFor table id with | some b => b args | none => _) = _
    rw [entry]
  exact codeN_of_tree (tree ▸ h)
/-- a method of a built-in type, whose own tree may look at the stack -/
theorem callN_entry {T : String} {name : Str} {id : String} {b : Builtin} {self : Value} {rest : List Value} {Q : Value → Shared → Prop} (slot : Slot T name id) (hT : s.TypeIs self T)
    (entry : entryFor table id = some b) (args : argsOk id ⟨self :: rest, []⟩) (ok : badIds.contains id = false)
    (h : wpN (model prog w) A.in1 (b ⟨self :: rest, []⟩) (fun fin s' => ∃ v, fin = .done (.ret v) ∧ Q v s') E s) : wpN (model prog w) A (call (.builtin id) (self :: rest)) Q E s := by
  refine wpN_call (codeN_of_tree (wpA_bind (A := A.in1) (slot.check _ _ _ _ _ _ _ _ hT args (wpN_pure ⟨plainId_quiet slot.plain _, ?_, codeN_builtin entry ?_⟩))))
  · show (!badIds.contains id) = true
    rw [ok]; rfl
  · rw [Around.under_plainId slot.plain _]
    refine wpN_mono h (fun fin s' q => ?_) fun _ _ z => z
    obtain ⟨v, rfl, q⟩ := q
    exact q
theorem tame_not {id : String} {args : Args} (h : tame (.builtin id args) = true) : badIds.contains id = false := by
  have : (!badIds.contains id) = true := h
  simpa using this
theorem tame_dec {id : String} {args : Args} (h : tame (.builtin id args) = true) : Builtin.Bytes.decodersThatHold.contains id = false := by
  have h1 := tame_not h
  unfold badIds at h1
  cases hq : Builtin.Bytes.decodersThatHold.contains id with
  | false => rfl
  | true =>
    rw [List.contains_iff_mem] at hq
    have : (["bytearray.__contains__", "bytearray.__mod__", "bytearray.__rmod__", "_struct.pack_into.held", "bytearray.find.held"] ++ Builtin.Bytes.decodersThatHold).contains id = true :=
      List.contains_iff_mem.mpr (List.mem_append_right _ hq)
    rw [this] at h1; cases h1
theorem wpN_exported {self : Value} {Q : Bool → Shared → Prop} (h : Q false s) : wpN (model prog w) A (Builtin.Bytes.exported self) Q E s := fun Γ p _ hN => by
  have key : ∀ {b : Bool}, b = false → Q b s := fun e => e ▸ h
  refine key (List.any_eq_false.mpr fun x hx => ?_)
  have ht : tame x.1 = true := by
    rcases List.mem_cons.mp hx with rfl | hx
    · exact hN.1
    · exact hN.2 x hx
  clear hx
  obtain ⟨c, p'⟩ := x
  dsimp only at ht ⊢
  cases c
  case builtin id args =>
    have h1 := tame_not ht
    have h2 := tame_dec ht
    have no : ∀ {k : String}, badIds.contains k = true → id ≠ k := fun hk e => by rw [e, hk] at h1; cases h1
    unfold Builtin.Bytes.exported.match_1
    show ¬ ((if _ : id = "bytearray.__contains__" then _ else _ : Bool) = true)
    rw [dif_neg (no (by decide)), dif_neg (no (by decide)), dif_neg (no (by decide)), dif_neg (no (by decide)), dif_neg (no (by decide))]
    obtain ⟨_ | ⟨v, l⟩, kw⟩ := args
    · exact Bool.false_ne_true
    · show ¬ (Builtin.Bytes.sameRef v self && Builtin.Bytes.decodersThatHold.contains id) = true
      rw [h2, Bool.and_false]
      exact Bool.false_ne_true
  all_goals exact Bool.false_ne_true
end
end Mine
end
section
namespace Mine
/-- t where the stack is clear of such codes, else d -/
def guarded {α : Type} (d t : Sem α) : Sem α := stack >>= fun st => if st.all (fun x => tame x.1) = true then t else d
theorem noDec_iff {Γ : Ctx} {p : Pos} : ((Γ.code, p) :: Γ.below).all (fun x => tame x.1) = true ↔ NoDec Γ := by
  rw [List.all_cons, Bool.and_eq_true, List.all_eq_true]
  exact Iff.rfl
theorem wp_guarded {α : Type} {M : Model} {Γ : Ctx} {d t : Sem α} {Q : α → Pos → Shared → Prop} {E : Value → Pos → Shared → Prop} {p : Pos} {s : Shared} :
    Sem.wp M Γ (guarded d t) Q E p s ↔ (NoDec Γ → Sem.wp M Γ t Q E p s) ∧ (¬ NoDec Γ → Sem.wp M Γ d Q E p s) := by
  have e : Sem.wp M Γ (guarded d t) Q E p s = Sem.wp M Γ (if ((Γ.code, p) :: Γ.below).all (fun x => tame x.1) = true then t else d) Q E p s := by
    show Sem.wp M Γ (.stack _) _ _ _ _ = _
    rw [Sem.wp_stack]
    rfl
  rw [e]
  by_cases h : NoDec Γ
  · rw [if_pos (noDec_iff.mpr h)]
    exact ⟨fun x => ⟨fun _ => x, fun n => absurd h n⟩, fun x => x.1 h⟩
  · rw [if_neg fun z => h (noDec_iff.mp z)]
    exact ⟨fun x => ⟨fun z => absurd z h, fun _ => x⟩, fun x => x.2 h⟩
theorem wpAny_guarded {α : Type} {M : Model} {A : Around} {d t : Sem α} {Q : α → Shared → Prop} {E : Value → Shared → Prop} {s : Shared} (h : wpN M A t Q E s) (hd : wpAny M A d Q E s) : wpAny M A (guarded d t) Q E s :=
  fun Γ p hΓ => wp_guarded.mpr ⟨h Γ p hΓ, fun _ => hd Γ p hΓ⟩
/-- the guard is passed by the claim's own caller: its stack is empty -/
theorem unguard {prog : Program} {w : World} {d t : Sem Fin} {s s' : Shared} {o : Outcome} {n : Nat} (hs : s.asleep)
    (h : schedN (denote table) prog w n (.single s ⟨guarded d t, .builtin "claim.caller" {}, default, []⟩) = .halted o s') :
    ∃ k, schedN (denote table) prog w k (.single s ⟨t, .builtin "claim.caller" {}, default, []⟩) = .halted o s' := by
  have one : step (denote table) prog w s ⟨guarded d t, .builtin "claim.caller" {}, default, []⟩ = .go s ⟨t, .builtin "claim.caller" {}, default, []⟩ := by
    show Step.go s ⟨if [(Code.builtin "claim.caller" {}, (default : Pos))].all (fun x => tame x.1) = true then t else d, _, _, _⟩ = _
    rw [if_pos (by decide +kernel)]
  cases n with
  | zero => cases h
  | succ n =>
    refine ⟨n, ?_⟩
    rcases sstep_single (den := denote table) (prog := prog) (w := w) s ⟨guarded d t, .builtin "claim.caller" {}, default, []⟩ rfl hs with e | e
    · simp only [schedN, e, one, Step.lift] at h
      exact h
    · rw [one] at e; cases e
/-- what is called: the function where the stack is clear; elsewhere nothing, and True comes back -/
abbrev guardedCall (f : Value) (vs : List Value) : Sem Value := guarded (pure (.bool true)) (PySem.call f vs)
theorem openBy_unguarded {c : ClaimW} {name : Str} {d : List Value → Sem Fin} {defs keeps : List Str} {writes : Bool}
    (H : c.HoldsOpenBy (fun vs => ⟨guarded (d vs) (callStub name vs).cur, .builtin "claim.caller" {}, default, []⟩) defs keeps writes) : c.HoldsOpenBy (callStub name) defs keeps writes := by
  refine ⟨H.1, H.2.1, fun w => ⟨(H.2.2 w).1, fun s ran => ?_⟩⟩
  obtain ⟨s₀, fence, none, s₁, top, r1, r2, r3, from_⟩ := (H.2.2 w).2 s ran
  refine ⟨s₀, fence, none, s₁, top, r1, r2, r3, fun args pre lay ord perm => ?_⟩
  obtain ⟨vs, s₂, laid, n, o, s', run, rest⟩ := from_ args pre lay ord perm
  have zero : s₀.asleep := Shared.asleep_of_life (fence_lifeW fence) (AfterImport.life ran)
  obtain ⟨k, run'⟩ := unguard (Shared.asleep_of_life (layAllW_rest _ _ _ laid).2.2.2 (Shared.asleep_of_life top.2.1 zero)) run
  exact ⟨vs, s₂, laid, k, o, s', run', rest⟩
/-- the library's head, for the guarded call: `open_top` finds it under this name -/
theorem PySem.W.holds_open {r : OpenRow} {q : Program} {loose : List Str} {Xt : Shared → Bool} {XP : (Str → Option Value) → Heap → Prop} {α : Type} {Yf : Shared → α} {Ya : World → α} {YP : World → Heap → Prop} {d : DefRec} {kwd : List (Str × Expr)} {N : Nat}
    (left : LeftO r.prog q loose Xt Yf Ya N) (hY : ∀ w s, Yf s = Ya w → YP w s.heap) (hYk : ∀ w h h', YP w h → (∀ b o, h.get? b = some o → h'.get? b = some o) → YP w h')
    (hX : ∀ s, Xt s = true → XP (s.heap.nsMap mainGlobals) s.heap) (hXk : ∀ mg h h', XP mg h → (∀ b o, h.get? b = some o → h'.get? b = some o) → XP mg h')
    (hdef : defOf q r.name = some (d, kwd)) (hp : r.prog.theDef r.name = some (d.params, d.body, d.scope)) (hk : kwWritten? d.params.kwonlyargs d.params.kw_defaults = some kwd)
    (hRf : ∀ s, Xt s = true → RecFacts r.records s.heap) (hwr : (!r.writes || r.records.isEmpty) = true) (k1 : r.wellSaid = true)
    (ok : (chainsOk q && opensWell r.prog && (frees r.toRowW && r.within.isEmpty)) = true) (hb : r.prog.bare) (hw : r.toRowW.promised)
    (call : WalkO q loose XP YP r.toRowW d kwd guardedCall) : r.Holds := by
  refine ⟨k1, hw, openBy_unguarded (d := fun _ => pure (.done (.ret (.bool true)))) (open_anyG (r := r.toRowW) (run := guardedCall) left hY hYk hX hXk hRf hwr ok hb hw (fun vs w s mg f Q E ns at_ h Γ p hΓ => ?_) (fun w s hg G n hn => ?_)
    fun w s₀ s₁ mg mb G Y args vs as pre lay L low => ?_)⟩
  · have z := wp_guarded.mp (h Γ p hΓ)
    refine wp_guarded.mpr ⟨fun c => ?_, fun c => z.2 c⟩
    have walked : wpN (model r.prog w) callerA (PySem.call f vs) (fun v s' => Q (.done (.ret v)) s') E s := fun Γ p hΓ c => (wp_guarded.mp (h Γ p hΓ)).1 c
    refine (wpA_bind (wpAny_nsGet ns ?_) : wpN (model r.prog w) callerA (callStub r.name vs).cur Q E s) Γ p hΓ c
    rw [at_]
    exact wpN_bind (wpN_mono walked (fun _ _ x => wpN_pure x) fun _ _ x => x)
  · have e : n = r.name := by split at hn <;> simp_all
    exact e ▸ pinned_of_view hg G hdef hp hk
  · obtain ⟨a, o, pm, cd, doc, dV, kV, h1, h2, h3, h4, h5⟩ := G.fn hdef
    exact ⟨.ref a, h1, call w s₀ s₁ mg mb G Y a o pm cd doc dV kV h2 h3 h4 h5 (defOf_name hdef ▸ h1) L.gens args vs as pre lay L.reads L.well (L.low low)⟩
end Mine
end
section
namespace Mine
set_option maxRecDepth 100000 in
set_option maxHeartbeats 8000000 in
open_top hd for PySem.Challenge.rw_pf0182_01
end Mine
end
section
namespace Mine
noncomputable abbrev PP : Program := PySem.Challenge.rw_pf0182_01.row.prog
noncomputable abbrev VW : Program := hd.view_39
noncomputable abbrev KF (P : Params) : Frag := hd.heap_39 P
noncomputable abbrev LO : List Str := looseW hd.view_39 [Str.ofString "NONE", Str.ofString "SUB", Str.ofString "UP", Str.ofString "AVERAGE", Str.ofString "PAETH"]
/-- a call of the def at f, from any frame of a plain def -/
abbrev Told (w : World) (f : Addr) (nd nu : Nat) (vs : List Value) (news : List (Addr × Obj)) (Ret : Heap → Addr → (Str → Option Value) → Shared → (Value → Shared → Prop) → (Value → Shared → Prop) → Prop) : Prop :=
  ∀ (mean : ExcName → Option Value) (mg mb : Str → Option Value) (dp un : Nat) (gd : Option (List Code)) (cn : Str) (cs : Scope) (a : Addr) (ccd : Value) (cl : List (Str × Addr)) (outer : List Env) (A₀ : Around) (base h₀ : Heap) (L : Addr) (m : Str → Option Value) (s : Shared) (Q E : Value → Shared → Prop),
    Below A₀ base outer h₀ → Fr h₀ L s.heap m → (KF w.params).In h₀ → News h₀ L s.heap news → Top VW LO mean mg mb h₀ → cs.kind = .function → dp + nd < recursionLimit → un + nu < cLine →
      Ret h₀ L m s Q E → wpAny (model PP w) (ktrTop dp un gd cn cs L a ccd cl outer) (call (.ref f) vs) Q E s
/-- it hands back the int r, all made objects as they stood -/
abbrev RInt (news : List (Addr × Obj)) (r : Int) (h₀ : Heap) (L : Addr) (m : Str → Option Value) (s : Shared) (Q _E : Value → Shared → Prop) : Prop :=
  ∀ (t : Tok) (h' : Heap) (tk' : Nat), Fr h₀ L h' m → News h₀ L h' news → Q (.int r t) { s with heap := h', toks := tk' }
theorem rint_of {news : List (Addr × Obj)} {r r' : Int} {h₀ h' : Heap} {L : Addr} {m : Str → Option Value} {s : Shared} {Q : Value → Shared → Prop} {t : Tok} {tk' : Nat} (h : RInt news r h₀ L m s Q Q) (e : r' = r) (F : Fr h₀ L h' m) (N : News h₀ L h' news) : Q (.int r' t) { s with heap := h', toks := tk' } := by
  subst e; exact h t h' tk' F N
/-- the two ints of the pool -/
abbrev poolObj (a b : Int) (ta tb : Tok) (n : Nat) : Obj := PySem.W.listOf #[.int a ta, .int b tb] n
theorem ne_next {news : List (Addr × Obj)} {B a : Addr} (h : ∀ p ∈ news, p.1 < B) (e : @LE.le Nat _ B a) : ∀ p ∈ news, p.1 ≠ a := fun p hp hq => absurd (h p hp) (Nat.not_lt.mpr (hq ▸ e))
theorem fmod_in (x : Int) {k : Int} (h : 0 < k) : 0 ≤ x.fmod k ∧ x.fmod k < k := ⟨Int.fmod_nonneg_of_pos x h, Int.fmod_lt_of_pos x h⟩
/-- a walk towards posts without a body: the terms stay small -/
theorem postA {α : Type} {M : Model} {A : Around} {m : Sem α} {Q : α → Shared → Prop} {E : Value → Shared → Prop} {s : Shared}
    (h : ∀ (Q' : α → Shared → Prop) (E' : Value → Shared → Prop), (∀ v s', Q v s' → Q' v s') → (∀ v s', E v s' → E' v s') → wpAny M A m Q' E' s) : wpAny M A m Q E s :=
  h Q E (fun _ _ h => h) fun _ _ h => h
theorem postN {α : Type} {M : Model} {A : Around} {m : Sem α} {Q : α → Shared → Prop} {E : Value → Shared → Prop} {s : Shared}
    (h : ∀ (Q' : α → Shared → Prop) (E' : Value → Shared → Prop), (∀ v s', Q v s' → Q' v s') → (∀ v s', E v s' → E' v s') → wpN M A m Q' E' s) : wpN M A m Q E s :=
  h Q E (fun _ _ h => h) fun _ _ h => h
theorem postA2 {α β : Type} {M : Model} {A : Around} {m : Sem α} {k : α → Sem β} {Q : β → Shared → Prop} {E : Value → Shared → Prop} {s : Shared}
    (h : ∀ Q' : β → Shared → Prop, (∀ v s', Q v s' → Q' v s') → wpAny M A m (fun a s' => wpAny M A (k a) Q' E s') E s) : wpAny M A m (fun a s' => wpAny M A (k a) Q E s') E s :=
  h Q fun _ _ h => h
theorem postN2 {α β : Type} {M : Model} {A : Around} {m : Sem α} {k : α → Sem β} {Q : β → Shared → Prop} {E E' : Value → Shared → Prop} {s : Shared}
    (h : ∀ Q' : β → Shared → Prop, (∀ v s', Q v s' → Q' v s') → wpAny M A m (fun a s' => wpN M A (k a) Q' E' s') E s) : wpAny M A m (fun a s' => wpN M A (k a) Q E' s') E s :=
  h Q fun _ _ h => h
/-- the walk halts here: the text goes on -/
def Held (p : Prop) : Prop := p
theorem held {p : Prop} (h : Held p) : p := h
theorem heldAt (n : Addr) {M : Model} {A : Around} {vs : List Value} {Q E : Value → Shared → Prop} {s : Shared} (h : Held (wpAny M A (PySem.call (Value.ref n) vs) Q E s)) : wpAny M A (PySem.call (Value.ref n) vs) Q E s := h
theorem unheld {p : Prop} (h : p) : Held p := h
end Mine
end
section
namespace Mine
def nearestF (l a c : Int) : Int :=
  let g := l + a - c
  let b := if (g - a).natAbs < (g - l).natAbs then a else l
  if (g - c).natAbs < (g - b).natAbs then c else b
abbrev farF (q : Int) : Int := if q < 0 then -q else q
theorem far_lt {p q : Int} : farF p < farF q ↔ p.natAbs < q.natAbs := by unfold farF; split <;> split <;> omega
theorem near_ac {x y z : Int} (h : farF (x + y - z - y) < farF (x + y - z - x)) (k : farF (x + y - z - z) < farF (x + y - z - y)) : z = nearestF x y z := by
  simp only [nearestF, if_pos (far_lt.mp h), if_pos (far_lt.mp k)]
theorem near_aa {x y z : Int} (h : farF (x + y - z - y) < farF (x + y - z - x)) (k : ¬ farF (x + y - z - z) < farF (x + y - z - y)) : y = nearestF x y z := by
  simp only [nearestF, if_pos (far_lt.mp h), if_neg fun e => k (far_lt.mpr e)]
theorem near_lc {x y z : Int} (h : ¬ farF (x + y - z - y) < farF (x + y - z - x)) (k : farF (x + y - z - z) < farF (x + y - z - x)) : z = nearestF x y z := by
  simp only [nearestF, if_neg fun e => h (far_lt.mpr e), if_pos (far_lt.mp k)]
theorem near_ll {x y z : Int} (h : ¬ farF (x + y - z - y) < farF (x + y - z - x)) (k : ¬ farF (x + y - z - z) < farF (x + y - z - x)) : x = nearestF x y z := by
  simp only [nearestF, if_neg fun e => h (far_lt.mpr e), if_neg fun e => k (far_lt.mpr e)]
section
set_option maxHeartbeats 8000000 in
theorem nearest_call (w : World) (x y z : Int) (t1 t2 t3 : Tok) (news : List (Addr × Obj)) : Told w 57 1 8 [.int x t1, .int y t2, .int z t3] news (RInt news (nearestF x y z)) := by
  w_top off
  dsimp only [Told, RInt, KF, VW, LO, PP]
  k_fill
  intros
  rename_i hret
  refine wpAny_call ?_
  k_dflt cell_enter
  k_steps
  all_goals (refine rint_of hret ?_ (by assumption) (by assumption); first | exact near_ac (by assumption) (by assumption) | exact near_aa (by assumption) (by assumption) | exact near_lc (by assumption) (by assumption) | exact near_ll (by assumption) (by assumption))
end
end Mine
end
section
local macro_rules | `(tactic| walk_at "no key of the walk") => `(tactic| fail "no line")
namespace Mine
abbrev RTake (src : Addr) (n : Nat) (news : List (Addr × Obj)) (top : Int) (h₀ : Heap) (L : Addr) (m : Str → Option Value) (s : Shared) (Q _E : Value → Shared → Prop) : Prop :=
  ∀ (r : Int) (t : Tok) (h' : Heap) (tk' : Nat) (a' b' : Int) (ta' tb' : Tok), 0 ≤ r → r < top → 0 ≤ a' → 0 ≤ b' → b' < 2147483647 → Fr h₀ L h' m → News h₀ L h' ((src, poolObj a' b' ta' tb' n) :: news) → Q (.int r t) { s with heap := h', toks := tk' }
theorem mul_ok_sq (x : Int) : IntMulOk (x.fmod 2147483647) (x.fmod 2147483647) := by
  have h := fmod_in x (k := 2147483647) (by decide)
  exact IntMulOk.of_left (intBits_le_64 (by omega) (by omega))
theorem rtake_of {src : Addr} {n : Nat} {news : List (Addr × Obj)} {top : Int} {h₀ : Heap} {L : Addr} {m : Str → Option Value} {s : Shared} {Q : Value → Shared → Prop} (h : RTake src n news top h₀ L m s Q Q)
   {r : Int} {t : Tok} {h' : Heap} {tk' : Nat} {a' b' : Int} {ta' tb' : Tok} (F : Fr h₀ L h' m) (N : News h₀ L h' ((src, poolObj a' b' ta' tb' n) :: news)) (e : (0 ≤ r ∧ r < top) ∧ 0 ≤ a' ∧ 0 ≤ b' ∧ b' < 2147483647) : Q (.int r t) { s with heap := h', toks := tk' } :=
  h _ _ _ _ _ _ _ _ e.1.1 e.1.2 e.2.1 e.2.2.1 e.2.2.2 F N
section
local macro_rules | `(tactic| k_all) => `(tactic| assumption)
local macro_rules | `(tactic| walk_at "subscriptTail Name Constant ref int") => `(tactic| (k_here; (with_reducible show wpAny _ _ (subscriptTail _ _ (Value.ref _) (Value.int _ _)) _ _ _); (with_unfolding_all refine' item_litK ?k1 ?k2 ?k3 ?k4 ?_ ?k6; (case k1 => is_list); (case k2 => decide); (case k3 => decide); (case k4 => rfl); (case k6 => with_unfolding_all rfl); k_whole)))
local macro_rules | `(tactic| mul_fits) => `(tactic| exact mul_ok_sq _)
set_option maxHeartbeats 8000000 in
theorem take_call (w : World) (src : Addr) (a b top : Int) (ta tb tt : Tok) (n : Nat) (news : List (Addr × Obj)) (hne : ∀ p ∈ news, p.1 ≠ src) (h0 : 0 ≤ a) (hb0 : 0 ≤ b) (hb : b < 2147483647) (ht : 0 < top) (htt : top ≤ 256) : Told w 104 1 8 [.ref src, .int top tt]
   ((src, poolObj a b ta tb n) :: news) (RTake src n news top) := by
  w_top off
  dsimp only [Told, KF, VW, LO, PP]
  k_fill
  intros
  rename_i hret
  refine wpAny_call ?_
  k_dflt cell_enter
  k_steps
  · exact rtake_of hret (by assumption) (by assumption) ⟨fmod_in _ ht, Int.fdiv_nonneg h0 (by omega), hb0, hb⟩
  · exact rtake_of hret (by assumption) (by assumption) ⟨fmod_in _ ht, h0, fmod_in _ (by decide)⟩
theorem updF_head {d : Addr} {o : Obj} {news : List (Addr × Obj)} {nf : Obj → List (Addr × Obj)} (U : UpdF d o news nf) :
    ∃ r, (∀ p ∈ r, p.1 ≠ d) ∧ (∀ p ∈ (d, o) :: r, p ∈ news) ∧ ∀ o', ∀ p ∈ nf o', p ∈ (d, o') :: r := by
  obtain ⟨pre, post, rfl, hg, p1, p2⟩ := U.split
  refine ⟨pre ++ post, fun p hp => (List.mem_append.mp hp).elim (p1 p) (p2 p), fun p hp => ?_, fun o' p hp => ?_⟩
  · rcases List.mem_cons.mp hp with rfl | hp
    · simp
    · rcases List.mem_append.mp hp with hp | hp
      · exact List.mem_append_left _ hp
      · exact List.mem_append_right _ (List.mem_cons_of_mem _ hp)
  · rw [hg] at hp
    rcases List.mem_append.mp hp with hp | hp
    · exact List.mem_cons_of_mem _ (List.mem_append_left _ hp)
    · rcases List.mem_cons.mp hp with rfl | hp
      · exact List.mem_cons_self
      · exact List.mem_cons_of_mem _ (List.mem_append_right _ hp)
/-- the same, wherever the pool stands in the ledger -/
abbrev RTakeU (n : Nat) (nf : Obj → List (Addr × Obj)) (top : Int) (h₀ : Heap) (L : Addr) (m : Str → Option Value) (s : Shared) (Q _E : Value → Shared → Prop) : Prop :=
  ∀ (r : Int) (t : Tok) (h' : Heap) (tk' : Nat) (a' b' : Int) (ta' tb' : Tok), 0 ≤ r → r < top → 0 ≤ a' → 0 ≤ b' → b' < 2147483647 → Fr h₀ L h' m → News h₀ L h' (nf (poolObj a' b' ta' tb' n)) → Q (.int r t) { s with heap := h', toks := tk' }
theorem take_use (w : World) (src : Addr) (a b top : Int) (ta tb tt : Tok) (n : Nat) (news : List (Addr × Obj)) (nf : Obj → List (Addr × Obj)) (U : UpdF src (poolObj a b ta tb n) news nf) (h0 : 0 ≤ a) (hb0 : 0 ≤ b) (hb : b < 2147483647) (ht : 0 < top) (htt : top ≤ 256) :
    Told w 104 1 8 [.ref src, .int top tt] news (RTakeU n nf top) := by
  intro mean mg mb dp un gd cn cs a₁ ccd cl outer A₀ base h₀ L m s Q E hB F X N T hk hd hu hret
  obtain ⟨r, p1, hs, hn⟩ := updF_head U
  refine take_call w src a b top ta tb tt n r p1 h0 hb0 hb ht htt mean mg mb dp un gd cn cs a₁ ccd cl outer A₀ base h₀ L m s Q E hB F X (fun p hp => N p (hs p hp)) T hk hd hu ?_
  intro r t h' tk' a' b' ta' tb' r0 r1 a0 b0 b1 F9 N9
  exact hret r t h' tk' a' b' ta' tb' r0 r1 a0 b0 b1 F9 (fun p hp => N9 p (hn _ p hp))
end
end Mine
end
section
namespace Mine
def guessF (k l a c : Int) : Int := if k = 0 then 0 else if k = 1 then l else if k = 2 then a else if k = 3 then (l + a).fdiv 2 else nearestF l a c
section
local macro_rules | `(tactic| walk_at "call ref") => `(tactic| (k_here; (with_reducible show wpAny _ _ (PySem.call (Value.ref 57) [Value.int _ _, Value.int _ _, Value.int _ _]) _ _ _); k_dflt (refine' nearest_call _ _ _ _ _ _ _ _ _ _ _ _ _ _ _ _ _ _ _ _ _ _ _ _ _ _ _ _ ?kB ?kF ?kX ?kN ?kT ?kk ?kd ?ku ?_; (case kB => k_asm); (case kF => k_asm); (case kX => k_asm); (case kN => k_asm); (case kT => k_asm); (case kk => first | exact rfl | assumption); (case kd => ktr_room); (case ku => ktr_units)); intro t9 h9 tk9 F9 N9; (try dsimp only); (try k_fold); (try k_sweep)))
set_option maxHeartbeats 8000000 in
theorem guess_call (w : World) (k x y z : Int) (t0 t1 t2 t3 : Tok) (news : List (Addr × Obj)) (h0 : 0 ≤ k) (h1 : k < 5) : Told w 64 2 16 [.int k t0, .int x t1, .int y t2, .int z t3] news (RInt news (guessF k x y z)) := by
  w_top off
  dsimp only [Told, KF, VW, LO, PP]
  k_fill
  intros
  rename_i hret
  refine wpAny_call ?_
  k_dflt cell_enter
  k_steps
  all_goals first | (refine rint_of hret ?_ (by assumption) (by assumption); unfold guessF; (repeat' split) <;> first | rfl | omega) | (exfalso; omega)
end
end Mine
end
section
namespace Mine
open PyProof.Rows.LCg
section
variable {prog : Program} {w : World} {A : Around} {E : Value → Shared → Prop} {s : Shared} {h₀ : Heap} {L : Addr} {m : Str → Option Value} {env : Env}

/-- iterating over xv at s₁ yields n values, the i-th with P i; the ledger facts S keep the iterator sound -/
def Src (prog : Program) (w : World) (A : Around) (h₀ : Heap) (L : Addr) (S : List (Addr × Obj) → Prop) (n : Nat) (P : Nat → Value → Prop) (xv : Value) (s₁ : Shared) : Prop :=
  ∃ (o : Obj) (fp : List Addr) (St : Nat → Heap → Prop),
    Walks prog w A s₁.heap.objs.size fp [s₁.heap.objs.size] n P St ∧
    (∀ (Q E : Value → Shared → Prop), Q (.ref s₁.heap.objs.size) { s₁ with heap := s₁.heap.push o } → wpAny (model prog w) A (pyIter xv) Q E s₁) ∧
    (∀ i h, St i h → ∃ o, h.get? s₁.heap.objs.size = some o) ∧
    (∀ i h h' o nw, St i h → h.get? s₁.heap.objs.size = some o → h'.get? s₁.heap.objs.size = some o → (∀ b o, h₀.get? b = some o → h'.get? b = some o) → News h₀ L h' nw → S nw → St i h') ∧
    St 0 (s₁.heap.push o) ∧ (∀ b ∈ fp, b ≤ s₁.heap.objs.size)

theorem src_range {r : Addr} {a b : Int} {t u v : Tok} {n : Nat} {s₁ : Shared} (hh : A.handled = none) (hr : IsRange s₁.heap r a b 1 t u v) (hsm : Builtin.Range.small a b 1 = true) (hn : Builtin.Range.rangeSize a b 1 = ((n : Nat) : Int)) :
    Src prog w A h₀ L (fun _ => True) n (fun i v => ∃ t, v = .int (a + (i : Int)) t) (.ref r) s₁ := by
  refine ⟨_, [s₁.heap.objs.size], _, range_walks hh a n, fun Q E hq => wpAny_pyIter_range hr hsm hq, fun i h st => ⟨_, st⟩, range_st, ?_, ?_⟩
  · show IsRangeIter _ _ _ _ _
    rw [hn]; simpa using Heap.get?_push_size _ rfl
  · intro b hb
    rw [List.mem_singleton.mp hb]; exact Nat.le_refl _

theorem src_list {ax : Addr} {its : Array Value} {k : Nat} {news : List (Addr × Obj)} {s₁ : Shared} (hh : A.handled = none) (N : News h₀ L s₁.heap news) (hm : (ax, PySem.W.listOf its k) ∈ news) :
    Src prog w A h₀ L (fun nw => (ax, PySem.W.listOf its k) ∈ nw) its.size (fun i v => its[i]? = some v) (.ref ax) s₁ := by
  have hl : s₁.heap.IsList ax its := ⟨_, (N _ hm).1, rfl, k, rfl⟩
  have hlt : ax < s₁.heap.objs.size := Heap.lt_size (N _ hm).1
  refine ⟨_, [s₁.heap.objs.size, ax], _, Walks.list hh s₁.heap.objs.size ax (Nat.ne_of_lt hlt) its, fun Q E hq => wpAny_pyIter_list hl hq, fun i h st => by obtain ⟨o, e, _⟩ := st.1; exact ⟨o, e⟩, ?_, ⟨⟨_, Heap.get?_push_size _ rfl, rfl, rfl⟩, hl.push _⟩, ?_⟩
  · intro i h h' o nw st e e' _ N' hS
    refine ⟨by obtain ⟨o', q, r⟩ := st.1; rw [e] at q; cases q; exact ⟨o, e', r⟩, ⟨_, (N' _ hS).1, rfl, k, rfl⟩⟩
  · intro b hb
    rcases List.mem_cons.mp hb with rfl | hb
    · exact Nat.le_refl _
    · rw [List.mem_singleton.mp hb]; exact Nat.le_of_lt hlt

theorem src_tuple {ax : Addr} {its : Array Value} {k : Nat} {news : List (Addr × Obj)} {s₁ : Shared} (hh : A.handled = none) (N : News h₀ L s₁.heap news) (hm : (ax, ({ cls := .type "tuple", data := .seq its k } : Obj)) ∈ news) :
    Src prog w A h₀ L (fun nw => (ax, ({ cls := .type "tuple", data := .seq its k } : Obj)) ∈ nw) its.size (fun i v => its[i]? = some v) (.ref ax) s₁ := by
  have hl : s₁.heap.IsTuple ax its := ⟨_, (N _ hm).1, rfl, k, rfl⟩
  have hlt : ax < s₁.heap.objs.size := Heap.lt_size (N _ hm).1
  refine ⟨_, [s₁.heap.objs.size, ax], _, Walks.tuple hh s₁.heap.objs.size ax (Nat.ne_of_lt hlt) its, fun Q E hq => wpAny_pyIter_tuple hl hq, fun i h st => by obtain ⟨o, e, _⟩ := st.1; exact ⟨o, e⟩, ?_, ⟨⟨_, Heap.get?_push_size _ rfl, rfl, rfl⟩, hl.push _⟩, ?_⟩
  · intro i h h' o nw st e e' _ N' hS
    refine ⟨by obtain ⟨o', q, r⟩ := st.1; rw [e] at q; cases q; exact ⟨o, e', r⟩, ⟨_, (N' _ hS).1, rfl, k, rfl⟩⟩
  · intro b hb
    rcases List.mem_cons.mp hb with rfl | hb
    · exact Nat.le_refl _
    · rw [List.mem_singleton.mp hb]; exact Nat.le_of_lt hlt

theorem src_bytes {b : Array UInt8} {t : Tok} {s₁ : Shared} (hh : A.handled = none) :
    Src prog w A h₀ L (fun _ => True) b.size (fun i v => ∃ c u, b[i]? = some c ∧ v = .int (c.toNat : Int) u) (.bytes b t) s₁ := by
  refine ⟨_, [s₁.heap.objs.size], _, KBw.walks hh s₁.heap.objs.size b t, fun Q E hq => KBw.pyIter_bytes hq, fun i h st => by obtain ⟨o, e, _⟩ := st; exact ⟨o, e⟩, ?_, ⟨_, Heap.get?_push_size _ rfl, rfl, rfl⟩, ?_⟩
  · intro i h h' o nw st e e' _ _ _
    obtain ⟨o', q, r⟩ := st
    rw [e] at q; cases q
    exact ⟨o, e', r⟩
  · intro c hc
    rw [List.mem_singleton.mp hc]; exact Nat.le_refl _

/-- the goal behind a comprehension's iterable -/
def CGoal (prog : Program) (w : World) (A : Around) (h₀ : Heap) (L : Addr) (m : Str → Option Value) (env : Env) (elt : Expr) (x : Str) (scope : Scope) (cl : List (Str × Addr)) (Fin : Shared → List Value → List (Addr × Obj) → Prop) (xv : Value) (s₁ : Shared) : Prop :=
  ∃ S n P news, Src prog w A h₀ L S n P xv s₁ ∧ n ≤ sizeLine ∧ Fr h₀ L s₁.heap m ∧ News h₀ L s₁.heap news ∧ S news ∧ ∀ g, CompRest prog w A h₀ L m env elt x scope cl { s₁ with heap := g } S P (Fin { s₁ with heap := g }) n 0 [] news

theorem cgoal_rest {elt : Expr} {x : Str} {scope : Scope} {cl : List (Str × Addr)} {S : List (Addr × Obj) → Prop} {n : Nat} {P : Nat → Value → Prop} {Fin : List Value → List (Addr × Obj) → Prop} {news : List (Addr × Obj)} (J : Nat → List Value → List (Addr × Obj) → Prop) (h0 : J 0 [] news)
    (turn : ∀ i v ys nw I oI C oC D m₂ h tk (E' : Value → Shared → Prop), i < n → P i v → J i ys nw → NsObj oC m₂ → m₂ x = some v → Fr h₀ L h m → News h₀ L h ((I, oI) :: (C, oC) :: (D, lst ys) :: nw) → Off3 I C D nw → ((@Ne Nat I C) ∧ (@Ne Nat I D) ∧ (@Ne Nat C D)) →
      wpAny (model prog w) A (eval elt (compEnvC scope cl C env)) (CompEnd h₀ L m { s with heap := h, toks := tk } I oI C oC D (lst ys) S (fun y nw' => J (i + 1) (ys ++ [y]) nw')) E' { s with heap := h, toks := tk })
    (fin : ∀ ys nw, J n ys nw → Fin ys nw) : CompRest prog w A h₀ L m env elt x scope cl s S P Fin n 0 [] news := by
  have key : ∀ (j i : Nat) (ys : List Value) (nw : List (Addr × Obj)), i + j = n → J i ys nw → CompRest prog w A h₀ L m env elt x scope cl s S P Fin j i ys nw := by
    intro j
    induction j with
    | zero =>
      intro i ys nw hi hJ
      have e : i = n := by omega
      subst e
      exact CompRest.zero (fin ys nw hJ)
    | succ j ih =>
      intro i ys nw hi hJ
      refine CompRest.succ ?_
      intro v I oI C oC D m₂ h tk E' hv hC hx F N off ne
      refine wpAny_mono (turn i v ys nw I oI C oC D m₂ h tk E' (by omega) hv hJ hC hx F N off ne) (fun y s₂ hq => ?_) fun _ _ e => e
      obtain ⟨h', tk', nw', e, F', N', off', hS, hJ'⟩ := hq
      exact ⟨h', tk', nw', e, F', N', off', hS, ih (i + 1) _ _ (by omega) hJ'⟩
  exact key n 0 [] news (by omega) h0

theorem comp_tail {elt iter : Expr} {x : Str} {px : Pos} {scope : Scope} {cl : List (Str × Addr)} {pos : Pos} {xv : Value} {s₁ : Shared} {S : List (Addr × Obj) → Prop} {n : Nat} {P : Nat → Value → Prop} {news : List (Addr × Obj)} {Fin : Shared → List Value → List (Addr × Obj) → Prop}
    {RR : Shared → Value → Addr → Result → Shared → Prop} (hcell : ∀ y ∈ scope.names, y.2 ≠ .cell) (hkind : scope.kind = .function) (hx : scope.names.lookup x = some .local)
    (src : Src prog w A h₀ L S n P xv s₁) (hsz : n ≤ sizeLine) (F : Fr h₀ L s₁.heap m) (N : News h₀ L s₁.heap news) (hS : S news) (R : ∀ g, CompRest prog w A h₀ L m env elt x scope cl { s₁ with heap := g } S P (Fin { s₁ with heap := g }) n 0 [] news)
    (hRR : ∀ s₂ D C h tk m' ys news', (∃ g, s₂ = { s₁ with heap := g }) → Fr h₀ L h m → News h₀ L h ((D, lst ys) :: news') → Off1 D news' → h.Ns C m' → h₀.get? C = none → h₀.get? D = none → C ≠ L → D ≠ L → C ≠ D → (∀ p ∈ news', p.1 ≠ C) → Fin s₂ ys news' → RR s₂ (.ref D) C (.ok .next) { s₂ with heap := h, toks := tk }) :
    wpAny (model prog w) A (pyIter xv) (fun it s₂ => wpAny (model prog w) A (newList []) (fun acc s₃ => wpAny (model prog w) A (newFunctionEnv scope env.globals cl [] env.qual none .none (some env)) (fun cenv s₄ =>
      codeAny (model prog w) A (.compStart (.ListComp elt [⟨.Name x px, iter, [], 0⟩] scope pos) 0 it acc { cenv with scope := relabel scope env }) (RR s₂ acc cenv.locals) s₄) E s₃) E s₂) E s₁ := by
  obtain ⟨o, fp, St, W, hit, hIo, hSt, st0, hfp⟩ := src
  refine hit _ _ ?_
  have up : ∀ b o', s₁.heap.get? b = some o' → (s₁.heap.push o).get? b = some o' := fun b o' e => Heap.get?_push_of_some _ e
  refine block_U W hsz hIo hSt hcell hkind hx st0 (fun b hb => ?_) (F.keeps up) (N.grown up) (Nat.ne_of_lt F.ns.lt) (next_is_new F) (fun p hp => Nat.ne_of_lt (Heap.lt_size (N p hp).1)) hS (R _) ?_
  · show b < (s₁.heap.push o).objs.size
    rw [Heap.size_push]; exact Nat.lt_succ_of_le (hfp b hb)
  · intro D C h tk m' ys news' F' N' o1 hn hC₀ hD₀ hCL hDL hCD offC fin
    exact hRR _ D C h tk m' ys news' ⟨_, rfl⟩ F' N' o1 hn hC₀ hD₀ hCL hDL hCD offC fin

/-- the comprehension's own frame C is let go: the maker's frame and the ledger, the new list at its head, stay -/
theorem let_go {h : Heap} {C D : Addr} {o : Obj} {news : List (Addr × Obj)} (F : Fr h₀ L h m) (N : News h₀ L h ((D, o) :: news)) (low : h₀.get? C = none) (notL : C ≠ L) (notD : C ≠ D) (off : ∀ p ∈ news, p.1 ≠ C) {g : Heap} (same : Heap.SameBut C h g) :
    Fr h₀ L g m ∧ News h₀ L g ((D, o) :: news) := by
  have clear : ∀ p ∈ (D, o) :: news, p.1 ≠ C := fun p hp => by
    rcases List.mem_cons.mp hp with rfl | hp
    · exact Ne.symm notD
    · exact off p hp
  exact ⟨F.change same notL low, fun p hp => ⟨(same.2 p.1 (clear p hp)).trans (N p hp).1, (N p hp).2⟩⟩
/-- a list comprehension over any source -/
theorem listComp_S {elt iter : Expr} {x : Str} {px : Pos} {scope : Scope} {cl : List (Str × Addr)} {pos : Pos} {Q : Value → Shared → Prop} (_F₀ : Fr h₀ L s.heap m)
    (clos : closureFor scope env = pure cl) (nocell : ∀ z ∈ scope.names, z.2 ≠ .cell) (fn : scope.kind = .function) (locals_ : ∀ z ∈ scope.names, z.2 = .local → scope.names.lookup z.1 = some .local) (own : scope.names.lookup x = some .local)
    (h : wpAny (model prog w) A (eval iter env) (CGoal prog w A h₀ L m env elt x scope cl (fun s₂ => FinE h₀ L m s₂ Q)) E s) (folded : ∀ v, foldedSetIterable iter env v = pure v := by intro _; rfl) :
    wpAny (model prog w) A (eval (.ListComp elt [⟨.Name x px, iter, [], 0⟩] scope pos) env) Q E s := by
  rw [eval_ListComp]
  refine wpAny_comprehension_free (use := none) rfl folded clos fn locals_ (wpAny_mono h ?_ fun _ _ z => z)
  rintro xv s₁ ⟨S, n, P, news, src, few, F, N, hS, rest⟩
  refine comp_tail (Fin := fun s₂ => FinE h₀ L m s₂ Q) nocell fn own src few F N hS rest ?_
  intro s₂ D C g tk mC ys news' _ F' N' off1 nsC lowC _ notL _ notD offC fin
  exact ⟨mC, nsC, fun g' same => let ⟨F₂, N₂⟩ := let_go F' N' lowC notL notD offC same; fin D g' tk F₂ N₂ off1⟩
/-- the same, its list bound to a name of the frame's -/
theorem assignComp_S {elt iter : Expr} {x y : Str} {px py : Pos} {scope : Scope} {cl : List (Str × Addr)} {pos spos : Pos} {Q : Flow → Shared → Prop} (_F₀ : Fr h₀ L s.heap m) (here : env.locals = L)
    (used : swapsWith (.ListComp elt [⟨.Name x px, iter, [], 0⟩] scope pos) (some (.Name y py)) spos.line env = pure true)
    (clos : closureFor scope env = pure cl) (nocell : ∀ z ∈ scope.names, z.2 ≠ .cell) (fn : scope.kind = .function) (locals_ : ∀ z ∈ scope.names, z.2 = .local → scope.names.lookup z.1 = some .local) (own : scope.names.lookup x = some .local)
    (loc : env.kindOf y = some .local) (plain : (env.scope.kind == .class || (env.scope.kind == .module && env.locals != env.globals)) = false)
    (h : wpAny (model prog w) A (eval iter env) (CGoal prog w A h₀ L m env elt x scope cl (fun s₂ => FinA h₀ L m s₂ y Q)) E s) (folded : ∀ v, foldedSetIterable iter env v = pure v := by intro _; rfl) :
    wpAny (model prog w) A (exec (.Assign [.Name y py] (.ListComp elt [⟨.Name x px, iter, [], 0⟩] scope pos) spos) env) Q E s := by
  subst here
  have made : ∀ at_ : Pos, wpAny (model prog w) A (comprehension (.ListComp elt [⟨.Name x px, iter, [], 0⟩] scope pos) scope env at_ (newList []) false (eval iter env) (some (assign (.Name y py) env))) (fun _ s' => Q .next s') E s := fun _ => by
    refine wpAny_comprehension_free rfl folded clos fn locals_ (wpAny_mono h ?_ fun _ _ z => z)
    rintro xv s₁ ⟨S, n, P, news, src, few, F, N, hS, rest⟩
    refine comp_tail (Fin := fun s₂ => FinA h₀ env.locals m s₂ y Q) nocell fn own src few F N hS rest ?_
    intro s₂ D C g tk mC ys news' _ F' N' off1 nsC lowC _ notL _ notD offC fin
    refine wpAny_assign_Name (wpAny_storeName_local loc F'.ns (fun g₁ ns₁ same₁ => ?_) plain)
    have lowL : h₀.get? env.locals = none := Heap.get?_none_of_le F'.above
    have F₁ : Fr h₀ env.locals g₁ (fun z => if z = y then some (.ref D) else m z) := ⟨ns₁, fun b o e => (same₁.2 b fun q => by rw [q, lowL] at e; cases e).trans (F'.keep b o e), F'.above⟩
    have N₁ : News h₀ env.locals g₁ ((D, lst ys) :: news') := fun p hp => ⟨(same₁.2 _ (N' p hp).2.1).trans (N' p hp).1, (N' p hp).2⟩
    exact ⟨mC, nsC.sameBut same₁ notL, fun g' same => let ⟨F₂, N₂⟩ := let_go F₁ N₁ lowC notL notD offC same; fin D g' _ F₂ N₂ off1⟩
  rw [exec_Assign_Name_used _ _ _ _ used]
  exact wpAny_bind (wpAny_standAt (wpAny_bind (wpAny_bind (wpAny_mono (made _) (fun _ _ q => wpAny_pure (wpAny_pure q)) fun _ _ z => z))))
end
end Mine
end
section
namespace Mine
open PySem.SeqAt
section
variable {prog : Program} {w : World} {A : Around} {E : Value → Shared → Prop} {s : Shared} {h₀ : Heap} {L : Addr} {m : Str → Option Value} {news : List (Addr × Obj)}
/-- xs.index(k) where k is there, of a short list of ints -/
theorem index_ints {l : Addr} {vs : List Value} {ns : List Int} {k : Int} {t : Tok} {Q : Value → Shared → Prop} (hl : s.heap.IsList l vs.toArray) (hi : IntsAre vs ns)
    (hz : ns.length ≤ 1000) (hk : k ∈ ns) (h : ∀ (i : Int) (t' : Tok) (tk : Nat), i = (ns.idxOf k : Nat) → 0 ≤ i → i < ns.length → Q (.int i t') { s with toks := tk }) :
    wpAny (model prog w) A (call (.builtin "list.index") [.ref l, .int k t]) Q E s := by
  have few := hi.length
  have place := List.idxOf_lt_length_iff.mpr hk
  have test : ∀ (j : Nat) (at_ : j < vs.toArray.size), isInt k vs.toArray[j] = (ns[j]'(by simpa [few] using at_) == k) := fun j at_ => isInt_at k hi j (by simpa using at_) _
  obtain ⟨⟨cls, dd, data, sl⟩, there, rfl, n, rfl⟩ := hl
  have found := list_indexAt l vs.toArray n dd sl (.int k t) (isInt k) (ns.idxOf k) (by simpa [few] using place) (by omega) (by rw [test]; simp) fun j at_ lt => by rw [test]; exact ne_of_lt_idxOf lt _
  exact call_meets PySem.F.slot_list_index ⟨_, there, rfl⟩ PySem.F.entry_list_index (PySem.F.args_list_index_2 _ _) found
    ⟨there, fun y hy => (eq_isInt k t hi y (by simpa using hy)).at _ _, h _ _ _ rfl (Int.natCast_nonneg _) (by omega)⟩
end
end Mine
end
section
local macro_rules | `(tactic| walk_at "no key of the walk") => `(tactic| fail "no line")
local macro_rules | `(tactic| walk_at "no key of the walk") => `(tactic| fail "no line")
namespace Mine
theorem near_val {x y z M i : Int} (hi : i = (List.idxOf M (List.map (fun k => if x + y - z - k < 0 then -(x + y - z - k) else x + y - z - k) [x, y, z]) : Nat))
    (hb : ∀ a ∈ List.map (fun k => if x + y - z - k < 0 then -(x + y - z - k) else x + y - z - k) [x, y, z], M ≤ a) (ha : M ∈ List.map (fun k => if x + y - z - k < 0 then -(x + y - z - k) else x + y - z - k) [x, y, z]) : [x, y, z].getD i.toNat 0 = nearestF x y z := by
  subst hi
  have e : ∀ k : Int, (if x + y - z - k < 0 then -(x + y - z - k) else x + y - z - k) = ((x + y - z - k).natAbs : Int) := fun k => by split <;> omega
  simp only [List.map_cons, List.map_nil, List.mem_cons, List.not_mem_nil, or_false, e] at ha hb ⊢
  have h1 := hb _ (.inl rfl)
  have h2 := hb _ (.inr (.inl rfl))
  have h3 := hb _ (.inr (.inr rfl))
  clear hb e
  simp only [List.idxOf_cons, List.idxOf_nil]
  unfold nearestF
  dsimp only
  by_cases e1 : ((x + y - z - x).natAbs : Int) = M
  · simp only [e1, beq_self_eq_true, cond_true, List.getD, Int.toNat_natCast, List.getElem?_cons_zero, Option.getD_some]
    clear ha
    (repeat' split) <;> omega
  · by_cases e2 : ((x + y - z - y).natAbs : Int) = M
    · simp only [beq_eq_false_iff_ne.mpr e1, e2, beq_self_eq_true, cond_true, cond_false, List.getD, Int.toNat_natCast, List.getElem?_cons_zero, Option.getD_some, Nat.zero_add, List.getElem?_cons_succ]
      clear ha
      (repeat' split) <;> omega
    · have e3 : ((x + y - z - z).natAbs : Int) = M := by
        rcases ha with h | h | h
        · exact absurd h.symm e1
        · exact absurd h.symm e2
        · exact h.symm
      simp only [beq_eq_false_iff_ne.mpr e1, beq_eq_false_iff_ne.mpr e2, e3, beq_self_eq_true, cond_true, cond_false, List.getD, Int.toNat_natCast, List.getElem?_cons_zero, Option.getD_some, Nat.zero_add, List.getElem?_cons_succ]
      clear ha
      (repeat' split) <;> omega
section
local macro_rules | `(tactic| k_all) => `(tactic| first | assumption | (refine ne_next (by assumption) ?_; omega))
local macro_rules | `(tactic| walk_at "exec Assign cons ListComp") => `(tactic| (k_here; k_dflt (refine assignComp_S (by k_asm) (by rfl) (by with_unfolding_all rfl) (by with_unfolding_all rfl) (by decide) (by rfl) (by decide) (by rfl) (by rfl) (by rfl) ?_)))
local macro_rules | `(tactic| walk_at "call builtin:list.index") => `(tactic| (k_here; (with_reducible show wpAny _ _ (PySem.call (Value.builtin _) [Value.ref _, Value.int _ _]) _ _ _); k_dflt (refine' index_ints ?l ?i ?z ?k ?_; (case l => is_list); (case i => assumption); (case z => simp); (case k => assumption)); intro ix9 tx9 tkx9 hx9 hx0 hx1; (simp only [List.length_map, List.length_cons, List.length_nil] at hx1); (try dsimp only); (try k_fold)))
set_option maxHeartbeats 8000000 in
theorem lnear_call (w : World) (x y z : Int) (t1 t2 t3 : Tok) (news : List (Addr × Obj)) : Told w 116 1 16 [.int x t1, .int y t2, .int z t3] news (RInt news (nearestF x y z)) := by
  w_top off
  dsimp only [Told, KF, VW, LO, PP]
  k_fill
  intros
  rename_i hret
  refine wpAny_call ?_
  (first | k_dflt (refine' code_defC ?k1 ?k2 ?k3 ?k4 ?k5 ?kA ?kF ?kK ?k6 ?k7 ?k8 ?k9 ?kB ?kD ?_ ?c2 ?c3 ?c4; (case kA => exact rfl); (case kF => exact rfl); (case kK => first | exact rfl | assumption); (case k1 => k_asm); (case k2 => k_asm); (case k3 => k_asm); (case k4 => k_asm); (case k5 => k_asm); (case k6 => k_is); (case k7 => k_is); (case k8 => ktr_room); (case k9 => first | exact BindsTo.of_eq rfl | exact binds_K (by k_in) rfl (by k_is) rfl rfl rfl); (case kB => exact rfl); (case kD => decide +kernel); (case c2 => exact rfl); (case c3 => exact rfl); (case c4 => exact rfl); k_whole; intro g' L' h' tk' cells' FG' F' N' Y' B' X' T' l1; k_cells Y'; (try simp only [List.cons_append, List.nil_append] at N'); (try dsimp only); (try k_lift B'); (try k_fold)) | fail "not entered")
  k_steps
  refine ⟨_, _, _, _, src_tuple rfl (by assumption) (by k_mem), (by size_fits), (by k_asm), (by k_asm), (by k_mem), fun g => kcf_rest (ks := [x, y, z]) (fun k => if (x + y - z) - k < 0 then -((x + y - z) - k) else (x + y - z) - k) rfl ?_ (fun k t I oI C oC D m₂ ys h tk E' hk hC hx F N off ne mk => ?_) ?_⟩
  · intro i v hi hv
    match i, hi, hv with
    | 0, _, hv => exact ⟨x, t1, rfl, (Option.some.inj hv).symm⟩
    | 1, _, hv => exact ⟨y, t2, rfl, (Option.some.inj hv).symm⟩
    | 2, _, hv => exact ⟨z, t3, rfl, (Option.some.inj hv).symm⟩
  · clear hret
    k_steps
    exact LCg.CompEnd.intro F N _ (fun p hp => hp) off (by k_mem) ⟨rfl, _, rfl⟩
  · unfold KPfDone
    intro ys hys D h tk F N off
    k_steps
    all_goals exact rint_of hret (near_val (by assumption) (by assumption) (by assumption)) (by assumption) (cb_drop (by assumption) (by kcj_all))
end
end Mine
end
section
namespace Mine
section
local macro_rules | `(tactic| walk_at "eval Call Name") => `(tactic| (k_here; (fail_if_success (with_reducible show wpAny _ _ (eval (Expr.Call (Expr.Name "range" _) _ _ _) _) _ _ _)); with_reducible refine Call_ ?_))
local macro_rules | `(tactic| k_all) => `(tactic| first | assumption | (refine ne_next (by assumption) ?_; omega))
local macro_rules | `(tactic| walk_at "call ref") => `(tactic| (k_here; first | with_reducible refine heldAt 116 ?_))
set_option maxHeartbeats 8000000 in
theorem lguess_call (w : World) (k x y z : Int) (t0 t1 t2 t3 : Tok) (news : List (Addr × Obj)) (h0 : 0 ≤ k) (h1 : k < 5) : Told w 123 2 24 [.int k t0, .int x t1, .int y t2, .int z t3] news (RInt news (guessF k x y z)) := by
  w_top off
  dsimp only [Told, KF, VW, LO, PP]
  k_fill
  intros
  rename_i hret
  refine wpAny_call ?_
  (first | k_dflt cell_enter | fail "not entered")
  (k_steps; repeat (any_goals ((refine unheld ?_; first | ((with_reducible show wpAny _ _ (PySem.call (Value.ref 116) [Value.int _ _, Value.int _ _, Value.int _ _]) _ _ _); k_dflt (refine' lnear_call _ _ _ _ _ _ _ _ _ _ _ _ _ _ _ _ _ _ _ _ _ _ _ _ _ _ _ _ ?zkBz ?zkFz ?zkXz ?zkNz ?zkTz ?zkkz ?zkdz ?zkuz ?_; (case zkBz => k_asm); (case zkFz => k_asm); (case zkXz => k_asm); (case zkNz => k_asm); (case zkTz => k_asm); (case zkkz => first | exact rfl | assumption); (case zkdz => ktr_room); (case zkuz => ktr_units)); intro t9 h9 tk9 F9 N9; (try dsimp only); (try k_fold); (try k_sweep))); (try k_steps))))
  all_goals refine rint_of hret ?_ (by assumption) (cb_drop (by assumption) (by kcj_all))
  all_goals (obtain e | e | e | e | e : k = 0 ∨ k = 1 ∨ k = 2 ∨ k = 3 ∨ k = 4 := (by omega)) <;> subst e <;> rfl
end
end Mine
end
section
local macro_rules | `(tactic| walk_at "no key of the walk") => `(tactic| fail "no line")
local macro_rules | `(tactic| walk_at "no key of the walk") => `(tactic| fail "no line")
local macro_rules | `(tactic| walk_at "no key of the walk") => `(tactic| fail "no line")
namespace Mine
section
abbrev ROct (n : Nat) (nf : Obj → List (Addr × Obj)) (h₀ : Heap) (L : Addr) (m : Str → Option Value) (s : Shared) (Q _E : Value → Shared → Prop) : Prop :=
  RTakeU n nf 256 h₀ L m s Q Q
theorem menu_in {r q : Int} (h0 : 0 ≤ r) (h1 : r < 256) (q0 : 0 ≤ q) (q1 : q < 9) : 0 ≤ [0, 1, 2, 3, 4, 127, 128, 255, r].getD q.toNat 0 ∧ [0, 1, 2, 3, 4, 127, 128, 255, r].getD q.toNat 0 < 256 := by
  obtain e | e | e | e | e | e | e | e | e : q = 0 ∨ q = 1 ∨ q = 2 ∨ q = 3 ∨ q = 4 ∨ q = 5 ∨ q = 6 ∨ q = 7 ∨ q = 8 := by omega
  all_goals subst e
  all_goals first | exact ⟨h0, h1⟩ | (constructor <;> simp)
local macro_rules | `(tactic| walk_at "eval Call Name") => `(tactic| (k_here; (fail_if_success (with_reducible show wpAny _ _ (eval (Expr.Call (Expr.Name "range" _) _ _ _) _) _ _ _)); with_reducible refine Call_ ?_))
local macro_rules | `(tactic| k_all) => `(tactic| first | assumption | (refine ne_next (by assumption) ?_; omega))
local macro_rules | `(tactic| walk_at "call ref") => `(tactic| (k_here; first | with_reducible refine heldAt 111 ?_ | with_reducible refine heldAt 104 ?_))
set_option maxHeartbeats 8000000 in
theorem octet_head (w : World) (src : Addr) (a b : Int) (ta tb : Tok) (n : Nat) (news : List (Addr × Obj)) (hne : ∀ p ∈ news, p.1 ≠ src) (h0 : 0 ≤ a) (hb0 : 0 ≤ b) (hb : b < 2147483647) : Told w 130 3 24 [.ref src] ((src, poolObj a b ta tb n) :: news) (ROct n (fun o => (src, o) :: news)) := by
  w_top off
  dsimp only [Told, KF, VW, LO, PP]
  k_fill
  intros
  rename_i hret
  refine wpAny_call ?_
  (first | k_dflt cell_enter | fail "not entered")
  (k_steps; repeat (any_goals ((refine unheld ?_; first | ((with_reducible show wpAny _ _ (PySem.call (Value.ref 104) [Value.ref _, Value.int _ _]) _ _ _); k_dflt (refine' take_use _ _ _ _ _ _ _ _ _ _ _ ?zUz ?zh0z ?zhb0z ?zhbz ?zhtz ?zhttz _ _ _ _ _ _ _ _ _ _ _ _ _ _ _ _ _ _ _ _ ?zkBz ?zkFz ?zkXz ?zkNz ?zkTz ?zkkz ?zkdz ?zkuz ?_; (case zkBz => k_asm); (case zkFz => k_asm); (case zkXz => k_asm); (case zkNz => k_asm); (case zkTz => k_asm); (case zkkz => first | exact rfl | assumption); (case zkdz => ktr_room); (case zkuz => ktr_units); (case zUz => k_updF); (case zh0z => assumption); (case zhb0z => assumption); (case zhbz => assumption); (case zhtz => decide); (case zhttz => decide)); intro r9 t9 h9 tk9 a9 b9 ta9 tb9 hr0 hr1 ha0 hb0 hb1 F9 N9; (try dsimp only at N9); (try dsimp only); (try k_fold); (try k_sweep)) | ((with_reducible show wpAny _ _ (PySem.call (Value.ref 111) _) _ _ _); refine wpAny_call ?_; (first | k_dflt (refine' code_def ?zk1z ?zk2z ?zk3z ?zk4z ?zk5z ?zkAz ?zkFz ?zkKz ?zk6z ?zk7z ?zk8z ?zk9z ?zkBz ?_ ?zc2z ?zc3z ?zc4z ?zc5z; (case zkAz => exact rfl); (case zkFz => exact rfl); (case zkKz => first | exact rfl | assumption); (case zk1z => k_asm); (case zk2z => k_asm); (case zk3z => k_asm); (case zk4z => k_asm); (case zk5z => k_asm); (case zk6z => k_is); (case zk7z => k_is); (case zk8z => ktr_room); (case zk9z => exact BindsTo.of_eq rfl); (case zc5z => decide); (case zkBz => exact locs rfl); (case zc2z => exact rfl); (case zc3z => exact rfl); (case zc4z => exact rfl); k_whole; intro g' L' h' FG' F' N' B' X' T'; (try dsimp only); (try k_lift B'); (try k_fold)) | fail "not entered"))); (try k_steps))))
  rename News _ _ _ _ => kN9
  rename Fr _ _ _ _ => kF9
  refine hret _ _ _ _ _ _ _ _ (menu_in ?_ ?_ ?_ ?_).1 (menu_in ?_ ?_ ?_ ?_).2 ?_ ?_ ?_ kF9 (cb_drop kN9 (fun p hp => List.mem_cons_of_mem _ hp))
  all_goals assumption
theorem octet_call (w : World) (src : Addr) (a b : Int) (ta tb : Tok) (n : Nat) (news : List (Addr × Obj)) (nf : Obj → List (Addr × Obj)) (U : UpdF src (poolObj a b ta tb n) news nf) (h0 : 0 ≤ a) (hb0 : 0 ≤ b) (hb : b < 2147483647) :
    Told w 130 3 24 [.ref src] news (ROct n nf) := by
  intro mean mg mb dp un gd cn cs a₁ ccd cl outer A₀ base h₀ L m s Q E hB F X N T hk hd hu hret
  obtain ⟨r, p1, hs, hn⟩ := updF_head U
  refine octet_head w src a b ta tb n r p1 h0 hb0 hb mean mg mb dp un gd cn cs a₁ ccd cl outer A₀ base h₀ L m s Q E hB F X (fun p hp => N p (hs p hp)) T hk hd hu ?_
  intro r t h' tk' a' b' ta' tb' r0 r1 a0 b0 b1 F9 N9
  exact hret r t h' tk' a' b' ta' tb' r0 r1 a0 b0 b1 F9 (fun p hp => N9 p (hn _ p hp))
end
end Mine
end
section
namespace Mine
section
def weightF (b : Array UInt8) : Int := ((KBw.bInts b).map (fun k => if k < 128 then k else 256 - k)).sum
local macro_rules | `(tactic| walk_at "eval ListComp") => `(tactic| (k_here; k_dflt (refine listComp_S (by k_asm) (by with_unfolding_all rfl) (by decide) (by rfl) (by decide) (by rfl) ?_)))
set_option maxHeartbeats 8000000 in
theorem weight_call (w : World) (b : Array UInt8) (t1 : Tok) (news : List (Addr × Obj)) (hb : b.size ≤ 1000) : Told w 83 1 16 [.bytes b t1] news (RInt news (weightF b)) := by
  w_top off
  dsimp only [Told, KF, VW, LO, PP]
  k_fill
  intros
  rename_i hret
  refine wpAny_call ?_
  (first | k_dflt cell_enter | fail "not entered")
  k_steps
  refine ⟨_, _, _, _, src_bytes rfl, (by rw [PySem.sizeLine_eq]; omega), (by k_asm), (by k_asm), True.intro, fun g => kcf_rest (ks := KBw.bInts b) (fun k => if k < 128 then k else 256 - k) (KBw.ints_length b) ?_ (fun k t I oI C oC D m₂ ys h tk E' hk hC hx F N off ne mk => ?_) ?_⟩
  · rintro i v hi ⟨c, u, hc, rfl⟩
    exact ⟨_, u, KBw.ints_get hc, rfl⟩
  · clear hret
    k_steps
  · unfold KPfDone
    intro ys hys D h tk F N off
    k_steps
    rename News _ _ _ _ => kN9
    rename Fr _ _ _ _ => kF9
    exact rint_of hret rfl kF9 (cb_drop kN9 (fun p hp => List.mem_cons_of_mem _ hp))
end
end Mine
end
section
local macro_rules | `(tactic| walk_at "no key of the walk") => `(tactic| fail "no line")
local macro_rules | `(tactic| walk_at "no key of the walk") => `(tactic| fail "no line")
namespace Mine
section
theorem lweight_eq (b : Array UInt8) : ((KBw.bInts b).map (fun k => if 256 - k < k then 256 - k else k)).sum = weightF b := by
  unfold weightF
  congr 1
  refine List.map_congr_left fun k hk => ?_
  split <;> split <;> omega
local macro_rules | `(tactic| walk_at "eval ListComp") => `(tactic| (k_here; k_dflt (refine listComp_S (by k_asm) (by with_unfolding_all rfl) (by decide) (by rfl) (by decide) (by rfl) ?_)))
set_option maxHeartbeats 8000000 in
theorem lweight_call (w : World) (b : Array UInt8) (t1 : Tok) (news : List (Addr × Obj)) (hb : b.size ≤ 1000) : Told w 142 1 16 [.bytes b t1] news (RInt news (weightF b)) := by
  w_top off
  dsimp only [Told, KF, VW, LO, PP]
  k_fill
  intros
  rename_i hret
  refine wpAny_call ?_
  (first | k_dflt cell_enter | fail "not entered")
  k_steps
  refine ⟨_, _, _, _, src_bytes rfl, (by rw [PySem.sizeLine_eq]; omega), (by k_asm), (by k_asm), True.intro, fun g => kcf_rest (ks := KBw.bInts b) (fun k => if 256 - k < k then 256 - k else k) (KBw.ints_length b) ?_ (fun k t I oI C oC D m₂ ys h tk E' hk hC hx F N off ne mk => ?_) ?_⟩
  · rintro i v hi ⟨c, u, hc, rfl⟩
    exact ⟨_, u, KBw.ints_get hc, rfl⟩
  · clear hret
    k_steps
  · unfold KPfDone
    intro ys hys D h tk F N off
    k_steps
    rename News _ _ _ _ => kN9
    rename Fr _ _ _ _ => kF9
    exact rint_of hret (lweight_eq b) kF9 (cb_drop kN9 (fun p hp => List.mem_cons_of_mem _ hp))
end
end Mine
end
section
namespace Mine
abbrev baObj (b : Array UInt8) : Obj := { cls := .type "bytearray", data := .bytearray b }
namespace BA
theorem slot_append : Slot "bytearray" "append" "bytearray.append" :=
  .of (owner := "bytearray") (n := "append") (by rw [typeLookup_type, builtinLookup_eq_fast]; kernel_rfl) (by decide +kernel) (by decide +kernel) (by decide +kernel)
    (by first | exact .inl (by decide +kernel) | exact .inr (by decide +kernel)) (by rw [isSubtype_type]; kernel_rfl)
theorem entry_append : entryFor table "bytearray.append" = some Builtin.«bytearray.append» := entryFor_of_tree (by kernel_rfl)
theorem args_append (a b : Value) : argsOk "bytearray.append" ⟨[a, b], []⟩ := by unfold argsOk; kernel_rfl
theorem type_append : typeOf (.builtin "bytearray.append") = pure (.type "method_descriptor") := by show builtinType _ = _; rw [builtinType_eq_fast]; kernel_rfl
theorem slot_getitem : Slot "bytearray" "__getitem__" "bytearray.__getitem__" :=
  .of (owner := "bytearray") (n := "__getitem__") (by rw [typeLookup_type, builtinLookup_eq_fast]; kernel_rfl) (by decide +kernel) (by decide +kernel) (by decide +kernel)
    (by first | exact .inl (by decide +kernel) | exact .inr (by decide +kernel)) (by rw [isSubtype_type]; kernel_rfl)
theorem entry_getitem : entryFor table "bytearray.__getitem__" = some Builtin.«bytearray.__getitem__» := entryFor_of_tree (by kernel_rfl)
theorem args_getitem (a b : Value) : argsOk "bytearray.__getitem__" ⟨[a, b], []⟩ := by unfold argsOk; kernel_rfl
theorem ba_no_bytes : typeLookup (.type "bytearray") "__bytes__" = pure none := by rw [typeLookup_type, builtinLookup_eq_fast]; kernel_rfl
theorem ba_no_index : typeLookup (.type "bytearray") "__index__" = pure none := by rw [typeLookup_type, builtinLookup_eq_fast]; kernel_rfl
theorem yes_buffer : typeLookup (.type "bytearray") "__buffer__" = pure (some (.builtin "bytearray.__buffer__")) := by rw [typeLookup_type, builtinLookup_eq_fast]; kernel_rfl
theorem yes_release : typeLookup (.type "bytearray") "__release_buffer__" = pure (some (.builtin "bytearray.__release_buffer__")) := by rw [typeLookup_type, builtinLookup_eq_fast]; kernel_rfl
theorem plainAttrs : PlainAttrs "bytearray" := ⟨⟨"bytearray.__getattribute__", by rw [typeLookup_type, builtinLookup_eq_fast]; kernel_rfl, by decide +kernel⟩, by rw [typeLookup_type, builtinLookup_eq_fast]; kernel_rfl⟩
theorem mro : mroOf (.type "bytearray") = pure [.type "bytearray", .type "object"] := by rw [mroOf_type]; kernel_rfl
theorem lookup_new : typeLookup (.type "bytearray") "__new__" = pure (some (.builtin "bytearray.__new__")) := by rw [typeLookup_type, builtinLookup_eq_fast]; kernel_rfl
theorem slot_init : Slot "bytearray" "__init__" "bytearray.__init__" :=
  .of (owner := "bytearray") (n := "__init__") (by rw [typeLookup_type, builtinLookup_eq_fast]; kernel_rfl) (by decide +kernel) (by decide +kernel) (by decide +kernel)
    (by first | exact .inl (by decide +kernel) | exact .inr (by decide +kernel)) (by rw [isSubtype_type]; kernel_rfl)
theorem entry_init : entryFor table "bytearray.__init__" = some Builtin.«bytearray.__init__» := entryFor_of_tree (by kernel_rfl)
theorem args_init (a : Value) : argsOk "bytearray.__init__" ⟨[a], []⟩ := by unfold argsOk; kernel_rfl
theorem made : Bind.madeBy (.type "bytearray") = pure (some "bytearray.__new__") := madeBy_type mro lookup_new (by decide +kernel)
theorem typeCall : checkTypeCall "bytearray" ⟨[], []⟩ = pure () := by kernel_rfl
theorem newCall : checkBuiltinCall "bytearray.__new__" ⟨[.type "bytearray"], []⟩ = pure () := by kernel_rfl
theorem entry_new : entryFor table "bytearray.__new__" = some Builtin.«list.__new__» := entryFor_alias (id' := "list.__new__") (by kernel_rfl) rfl (by decide +kernel) (by kernel_rfl)
theorem plain_new : plainId "bytearray.__new__" = true := by decide +kernel
theorem sub : isSubtype (.type "bytearray") (.type "bytearray") = pure true := by rw [isSubtype_type]; kernel_rfl
theorem owner : ("bytearray.__new__".splitOn ".__new__").headD "" = "bytearray" := by rw [split_bytearray]; rfl
theorem bind0 : Builtin.Bytes.bindOptional "bytearray.__init__" "bytearray" ["source", "encoding", "errors"] [] [] = pure [none, none, none] := by kernel_rfl
theorem split_release : splitId "bytearray.__release_buffer__" = some ("bytearray", "__release_buffer__") := by decide +kernel
end BA
section
variable {prog : Program} {w : World} {A : Around} {E : Value → Shared → Prop} {s : Shared}
theorem wpN_if_false {α : Type} {M : Model} {c : Bool} {a b : Sem α} {Q : α → Shared → Prop} (hc : c = false) (h : wpN M A b Q E s) : wpN M A (if c = true then a else b) Q E s := by
  subst hc
  exact h
theorem ba_write {D : Addr} {b : Array UInt8} {f : Array UInt8 → Array UInt8} {Q : Unit → Shared → Prop} (hD : s.heap.get? D = some (baObj b)) (hz : (f b).size ≤ sizeLine)
    (hQ : ∀ h', h'.get? D = some (baObj (f b)) → Heap.SameBut D s.heap h' → Q () { s with heap := h' }) : wpAny (model prog w) A (Builtin.Bytes.write (.ref D) f) Q E s := by
  show wpAny _ _ (updateBytearray D f) _ _ _
  unfold updateBytearray
  refine wpAny_bind (wpAny_load hD ?_)
  show wpAny _ _ (update D (Obj.mapBytearray f) >>= fun _ => lookBehind D) _ _ _
  refine wpAny_bind (wpAny_update hD ?_)
  have hS : (s.heap.update D (Obj.mapBytearray f)).get? D = some (baObj (f b)) := Heap.get?_update_self (Obj.mapBytearray f) hD rfl
  refine wpAny_lookBehind hS ?_ (hQ _ hS (Heap.SameBut.update ..))
  show (if (f b).size > sizeLine then some "bytearray:memory" else none) = none
  rw [if_neg (Nat.not_lt.mpr hz)]
theorem ba_notExported {D : Addr} {b : Array UInt8} {Q : Bool → Shared → Prop} (hD : s.heap.get? D = some (baObj b)) (h : Q false s) :
    wpN (model prog w) A (Builtin.Bytes.exported (Value.ref D) <||> do
      let n ← Builtin.Bytes.exportsOf (Value.ref D)
      pure (decide (n > 0))) Q E s := by
  refine wpN_bind (wpN_exported ?_)
  dsimp only [toBool]
  refine wpA_bind ?_
  unfold Builtin.Bytes.exportsOf
  exact wpAny_bind (wpAny_load hD (wpAny_pure (wpN_pure h)))
theorem ba_append {D : Addr} {b : Array UInt8} {k : Int} {t : Tok} {Q : Value → Shared → Prop} (hD : s.heap.get? D = some (baObj b)) (h0 : 0 ≤ k) (h1 : k < 256) (hz : b.size < sizeLine)
    (hQ : ∀ h', h'.get? D = some (baObj (b.push k.toNat.toUInt8)) → Heap.SameBut D s.heap h' → Q .none { s with heap := h' }) :
    wpN (model prog w) A (call (.builtin "bytearray.append") [.ref D, .int k t]) Q E s := by
  refine callN_entry BA.slot_append ⟨_, hD, rfl⟩ BA.entry_append (BA.args_append _ _) (by decide) ?_
  unfold Builtin.«bytearray.append»
  refine wpA_bind (wpAny_of_eq (a := (.ref D, .int k t)) rfl ?_)
  dsimp only
  refine wpA_bind ?_
  unfold Builtin.Bytes.byteValue
  refine wpAny_bind (wpAny_of_eq (rfl : asIndex (.int k t) = pure k) ?_)
  refine bm_if_false (by simp only [Bool.or_eq_false_iff, decide_eq_false_iff_not]; omega) ?_
  refine wpAny_pure ?_
  refine wpN_bind ?_
  unfold Builtin.Bytes.checkResize
  refine wpN_bind (ba_notExported hD ?_)
  refine wpN_if_false rfl (wpN_pure ?_)
  exact .of (wpAny_bind (ba_write hD (by rw [Array.size_push]; exact hz) fun h' a b => wpAny_pure ⟨_, rfl, hQ h' a b⟩))
theorem ba_code_new {Q₁ : Value → Shared → Prop} (h : Q₁ (.ref s.heap.objs.size) { s with heap := s.heap.push (baObj #[]) }) :
    codeAny (model prog w) A (.call (.builtin "bytearray.__new__") ⟨[.type "bytearray"], []⟩) (wants Q₁ E) s := by
  refine codeAny_of_tree ?_
  show wpAny _ A.in1 (do checkBuiltinCall "bytearray.__new__" ⟨[.type "bytearray"], []⟩; again (.builtin "bytearray.__new__" ⟨[.type "bytearray"], []⟩)) _ _ s
  refine wpAny_bind (wpAny_of_eq BA.newCall (wpAny_pure ⟨plainId_quiet BA.plain_new _, codeAny_builtin_stack BA.entry_new rfl fun p st => ?_⟩))
  rw [Around.under_plainId BA.plain_new _]
  have hsub := BA.sub
  have hown := BA.owner
  obtain ⟨hp, g, d, tk, os⟩ := s
  simp only [hown]
  wp_walk
  exact h
/-- the memory of a bytearray that is no subclass's -/
theorem ba_ownRelease {D : Addr} {b : Array UInt8} {Q : Bool → Shared → Prop} (hD : s.heap.get? D = some (baObj b)) (h : Q false s) : wpAny (model prog w) A (Builtin.Bytes.ownRelease (.ref D)) Q E s := by
  have hT : s.TypeIs (.ref D) "bytearray" := ⟨_, hD, rfl⟩
  unfold Builtin.Bytes.ownRelease Builtin.Bytes.slotIsOwn
  refine wpAny_bind (wpAny_bind (wpAny_specialOf hT BA.yes_release ?_))
  dsimp only
  refine bm_if_false (by decide +kernel) ?_
  have e : ("bytearray.__release_buffer__".dropRight ("__release_buffer__".length + 1)) = "bytearray" := by decide +kernel
  rw [e]
  exact wpAny_isInstance hT BA.sub (wpAny_pure h)
theorem ba_init {D : Addr} {Q : Value → Shared → Prop} (hD : s.heap.get? D = some (baObj #[])) (hQ : ∀ h', h'.get? D = some (baObj #[]) → Heap.SameBut D s.heap h' → Q .none { s with heap := h' }) :
    wpN (model prog w) A (call (.builtin "bytearray.__init__") [.ref D]) Q E s := by
  refine callN_entry BA.slot_init ⟨_, hD, rfl⟩ BA.entry_init (BA.args_init _) (by decide) ?_
  unfold Builtin.«bytearray.__init__»
  refine wpA_bind (ba_ownRelease hD ?_)
  refine wpN_if_false rfl ?_
  refine wpA_bind (wpAny_of_eq BA.bind0 ?_)
  refine wpA_bind (wpAny_of_eq (a := ()) rfl ?_)
  refine wpA_bind (wpAny_of_eq (a := ()) rfl ?_)
  refine wpN_bind (ba_notExported hD ?_)
  refine wpN_if_false rfl ?_
  refine wpA_bind (ba_write hD (Nat.zero_le _) fun h' a b => ?_)
  refine .of ?_
  show wpAny _ _ ((pure () : Sem Unit) >>= fun _ => ret Value.none) _ _ _
  exact wpAny_bind (wpAny_pure (wpAny_pure ⟨_, rfl, hQ h' a b⟩))
theorem ba_new {Q : Value → Shared → Prop} (hQ : ∀ h', h'.get? s.heap.objs.size = some (baObj #[]) → Heap.SameBut s.heap.objs.size (s.heap.push (baObj #[])) h' → Q (.ref s.heap.objs.size) { s with heap := h' }) :
    wpN (model prog w) A (call (.type "bytearray") []) Q E s := by
  refine wpN_call (codeN_of_tree ?_)
  show wpN _ A.in1 (again (.builtin "type.__call__" ⟨[.type "bytearray"], []⟩)) _ _ _
  refine wpN_pure ⟨Code.quiet_builtin _ (by decide +kernel), by decide +kernel, codeN_builtin F.entry_type_call ?_⟩
  rw [Around.under_plain (weight_type_call_type "bytearray" [] []) rfl]
  unfold Builtin.«type.__call__»
  dsimp only
  refine wpN_if_false (by decide +kernel) ?_
  refine wpN_if_false (by decide +kernel) ?_
  refine wpA_bind (wpAny_of_eq BA.typeCall ?_)
  refine wpA_bind (wpAny_of_eq BA.mro ?_)
  refine wpN_if_false rfl ?_
  refine wpA_bind (wpAny_of_eq BA.made ?_)
  refine wpA_bind (wpAny_pure ?_)
  have hz : (s.heap.push (baObj #[])).get? s.heap.objs.size = some (baObj #[]) := Heap.get?_push_size _ rfl
  refine wpA_bind (wpAny_holding (wpAny_call (codeAny_mono (ba_code_new (Q₁ := fun v s₁ => v = .ref s.heap.objs.size ∧ s₁ = { s with heap := s.heap.push (baObj #[]) }) (E := fun _ _ => False) ⟨rfl, rfl⟩) ?_)))
  rintro r s₁ hr
  cases r with
  | error e => exact hr.elim
  | ok fl =>
    cases fl with
    | ret v =>
      obtain ⟨rfl, rfl⟩ := hr
      have hT : Shared.TypeIs { s with heap := s.heap.push (baObj #[]) } (.ref s.heap.objs.size) "bytearray" := ⟨_, hz, rfl⟩
      refine wpA_bind (wpAny_isInstance hT BA.sub ?_)
      refine wpN_if_false rfl ?_
      refine wpN_bind (wpN_holding ?_)
      unfold callSpecial?
      refine wpA_bind (wpAny_specialOf hT BA.slot_init.lookup ?_)
      dsimp only
      refine wpN_holding (wpA_bind ?_)
      rw [BA.slot_init.bind]
      refine wpAny_pure ?_
      refine wpN_bind (wpN_mono (ba_init (Q := fun v s₂ => v = Value.none ∧ Q (.ref s.heap.objs.size) s₂) hz fun h' a b => ⟨rfl, hQ h' a b⟩) (fun v s₂ hv => ?_) fun _ _ x => x)
      obtain ⟨rfl, hq⟩ := hv
      refine wpN_pure ?_
      refine wpN_if_false (by decide) (wpN_pure hq)
    | _ => exact hr.elim
end
end Mine
end
section
namespace Mine
section
variable {prog : Program} {w : World} {A : Around} {E : Value → Shared → Prop} {s : Shared}
/-- an iterator that is through -/
theorem stops {α : Type} {Q : α → Shared → Prop} (hh : A.handled = none)
    (h : ∀ h' e, (∀ b o, s.heap.get? b = some o → h'.get? b = some o) → (∃ o, h'.get? e = some o ∧ o.cls = .type "StopIteration") → E (.ref e) { s with heap := h' }) : wpAny (model prog w) A (Builtin.SmallTypes.stopIteration : Sem α) Q E s := by
  unfold Builtin.SmallTypes.stopIteration newExc newTuple
  refine wpAny_bind (wpAny_bind (wpAny_newObj_type ?_ (by size_fits)))
  refine wpAny_bind (wpAny_of_eq (t := firstArgMember (.type "StopIteration") []) (a := Value.none) (by first | rfl | (simp only [firstArgMember]; rfl)) ?_)
  refine wpAny_newObj_type ?_ (by size_fits)
  exact wpAny_raiseNew_none hh (h _ _ (fun b o e => Heap.get?_push_of_some _ (Heap.get?_push_of_some _ e)) ⟨_, Heap.get?_push_size _ rfl, rfl⟩)
/-- what an iterator over bytes draws -/
theorem draw_byte {it : Addr} {b : Array UInt8} {t : Tok} {i : Nat} {Q : Value → Shared → Prop} (hh : A.handled = none) (hit : KBw.IsBytesIter s.heap it b t i)
    (more : ∀ c h', b[i]? = some c → KBw.IsBytesIter h' it b t (i + 1) → Heap.SameBut it s.heap h' → Q (.int (c.toNat : Int) s.toks) { s with heap := h', toks := s.toks + 1 })
    (fin : b[i]? = none → ∀ h' e, Heap.ExtBut it s.heap h' → (∃ o, h'.get? e = some o ∧ o.cls = .type "StopIteration") → E (.ref e) { s with heap := h' }) :
    wpAny (model prog w) A (Builtin.SmallTypes.nextOf (.ref it)) Q E s := by
  have own := hit
  obtain ⟨o, ho, hc, hd⟩ := hit
  have at_ : ∀ {A : Around} {k : Nat} {x : Value} {Q : Value → Shared → Prop}, #[Value.bytes b t, .int i 0][k]? = some x → Q x s → wpAny (model prog w) A (field (.ref it) k) Q E s := fun e q => wpAny_field ho hd e q
  have T := KBw.iter_typeIs own
  unfold Builtin.SmallTypes.nextOf
  refine wpAny_bind (wpAny_callSpecial?_slot (name := Str.ofString "__next__") T KBw.slot_next (wpAny_call_entry KBw.slot_next T KBw.entry_next ?_ (KBw.args_next _)))
  unfold Builtin.«bytes_iterator.__next__»
  refine wpAny_bind (wpAny_of_eq (a := (.ref it, [])) rfl (wpAny_bind (at_ (k := 0) rfl ?_)))
  refine bm_if_false rfl (wpAny_bind (at_ (k := 1) rfl (wpAny_bind (wpAny_of_eq (a := b) rfl ?_))))
  rw [Int.toNat_natCast]
  cases e : b[i]? with
  | some c =>
    refine wpAny_bind (wpAny_setField ho hd (by simp) (wpAny_bind (wpAny_mkInt (wpAny_pure ⟨_, rfl, wpAny_pure (more c _ e ⟨_, Heap.get?_update_self _ ho ?_, ?_, ?_⟩ (Heap.SameBut.update ..))⟩))))
    · exact Obj.isFreed_of_fields (Obj.data_mapFields hd _)
    · rw [Obj.cls_mapFields]; exact hc
    · rw [Obj.data_mapFields hd]; simp [rawInt]
  | none =>
    refine wpAny_bind (wpAny_rule (wpAny_bind (wpAny_setField ho hd (by simp) ?_)))
    exact stops (A := A.in1) hh fun h' x keep there => fin e h' x (fun p op hp ho' => keep p op ((Heap.get?_update_ne _ _ _ _ hp).trans ho')) there
theorem draws_bytes (hh : A.handled = none) (it : Addr) (b : Array UInt8) (t : Tok) :
    Draws prog w A it [it] b.size (fun i v => ∃ c u, b[i]? = some c ∧ v = .int (c.toNat : Int) u) (fun i h => KBw.IsBytesIter h it b t i) where
  live := fun _ _ ⟨o, ho, _⟩ => ⟨o, ho⟩
  frame := fun _ _ _ ⟨o, ho, r⟩ hk => ⟨o, hk it (.head _) o ho, r⟩
  item := fun i s Q E hi st hQ => draw_byte hh st (fun c h' hc st' same => hQ _ h' _ ⟨c, _, hc, rfl⟩ st' same) fun none => by rw [Array.getElem?_eq_getElem hi] at none; cases none
  done := fun s Q E st hE => draw_byte hh st (fun c h' hc => by rw [Array.getElem?_eq_none (Nat.le_refl _)] at hc; cases hc) fun _ => hE
abbrev byteIt (b : Array UInt8) (t : Tok) : Obj := { cls := .type "bytes_iterator", data := .fields #[.bytes b t, .int 0 0] }
abbrev enumOver (it : Addr) : Obj := { cls := .type "enumerate", data := .fields #[.none, .bool false, .ref it, rawInt 0, .none, .none] }
set_option maxHeartbeats 1000000 in
theorem enum_made (b : Array UInt8) (t : Tok) : Meets (Builtin.«enumerate.__new__» ⟨[.type "enumerate", .bytes b t], []⟩)
    (fun _ R s => R (.ok (.ret (.ref (s.heap.push (byteIt b t)).objs.size))) { s with heap := (s.heap.push (byteIt b t)).push (enumOver s.heap.objs.size) }) :=
  .of_wp fun prog w A R s h => by
    obtain ⟨hp, g, d, tk, os⟩ := s
    have sub := sub_enumerate
    wp_walk
    refine wpAny_stack_any fun st => wpAny_pure ?_
    split
    · rename_i c _ _ _ _ _
      cases (c == Value.type "enumerate") <;> (wp_walk using KBw.pyIter_bytes; exact ⟨_, rfl, h⟩)
    · wp_walk using KBw.pyIter_bytes
      exact ⟨_, rfl, h⟩
/-- enumerate(bytes) -/
theorem call_enumerate_bytes {b : Array UInt8} {t : Tok} {Q : Value → Shared → Prop}
    (h : ∀ h', IsEnum h' (s.heap.objs.size + 1) s.heap.objs.size 0 .none → KBw.IsBytesIter h' s.heap.objs.size b t 0 → h'.objs.size = s.heap.objs.size + 2 →
      (∀ b o, s.heap.get? b = some o → h'.get? b = some o) → Q (.ref (s.heap.objs.size + 1)) { s with heap := h' }) : wpAny (model prog w) A (call (.type "enumerate") [.bytes b t]) Q E s := by
  have one : (s.heap.push (byteIt b t)).objs.size = s.heap.objs.size + 1 := Heap.size_push ..
  have it_ : ((s.heap.push (byteIt b t)).push (enumOver s.heap.objs.size)).get? s.heap.objs.size = some (byteIt b t) := Heap.get?_push_of_some _ (Heap.get?_push_size _ rfl)
  have en : ((s.heap.push (byteIt b t)).push (enumOver s.heap.objs.size)).get? (s.heap.objs.size + 1) = some (enumOver s.heap.objs.size) := one ▸ Heap.get?_push_size _ rfl
  have all := h _ (show IsEnum _ _ _ _ _ from en) ⟨_, it_, rfl, rfl⟩ (by rw [Heap.size_push, one]) fun _ _ e => Heap.get?_push_of_some _ (Heap.get?_push_of_some _ e)
  refine callType_new F.called_enumerate (by decide) (F.typeCall_enumerate_1 _) (F.newCall_enumerate_1 _) (fun obj => F.args_object_init_2 obj _) F.entry_enumerate_new (enum_made b t) ?_
  rw [one]
  exact ⟨⟨_, en, rfl⟩, all⟩
end
end Mine
end
section
namespace Mine
namespace BA
theorem int_no_bytes : typeLookup (.type "int") "__bytes__" = pure none := by rw [typeLookup_type, builtinLookup_eq_fast]; kernel_rfl
theorem int_index : typeLookup (.type "int") "__index__" = pure (some (.builtin "int.__index__")) := by rw [typeLookup_type, builtinLookup_eq_fast]; kernel_rfl
theorem ends_buffer : (!"bytearray.__buffer__".endsWith ("." ++ "__buffer__")) = false := by decide +kernel
theorem drop_buffer : ("bytearray.__buffer__".dropRight ("__buffer__".length + 1)) = "bytearray" := by decide +kernel
end BA
section
variable {prog : Program} {w : World} {A : Around} {E : Value → Shared → Prop} {s : Shared}
/-- bytes(v), where its making gives the octets c and leaves the heap as it is -/
theorem bytes_called {v : Value} {c : Array UInt8} {Q : Value → Shared → Prop}
    (h : wpAny (model prog w) A.in1.in1 (Builtin.«bytes.__new__» ⟨[.type "bytes", v], []⟩) (fun fin s' => ∃ t k, fin = .done (.ret (.bytes c t)) ∧ s' = { s with toks := k }) (fun _ _ => False) s)
    (hQ : ∀ t k, Q (.bytes c t) { s with toks := k }) : wpAny (model prog w) A (call (.type "bytes") [v]) Q E s := by
  refine callType_codes (Q₁ := fun obj s₁ => ∃ t k, obj = .bytes c t ∧ s₁ = { s with toks := k }) F.bm_called (F.bm_typeCall _) F.entry_object_init (codeAny_of_tree ?_) fun obj s₁ z => ?_
  · show wpAny _ _ (checkBuiltinCall "bytes.__new__" ⟨[.type "bytes", v], []⟩ >>= fun _ => again (.builtin "bytes.__new__" ⟨[.type "bytes", v], []⟩)) _ _ s
    rw [F.bm_newCall]
    refine wpAny_bind (wpAny_pure (wpAny_pure ⟨plainId_quiet F.bm_plain _, codeAny_builtin F.bm_entry ?_⟩))
    rw [Around.under_plainId F.bm_plain _]
    exact wpAny_mono h (fun fin s' ⟨t, k, e, e'⟩ => by subst e e'; exact ⟨t, k, rfl, rfl⟩) fun _ _ z => z.elim
  · obtain ⟨t, k, rfl, rfl⟩ := z
    exact ⟨PySem.W.typeIs_bytes _ _ _, F.args_object_init_2 _ _, object_init_meets F.bm_called.init.lookup F.bm_called.made (by decide) prog w A.in1 _ _ ⟨PySem.W.typeIs_bytes _ _ _, rfl, hQ t k⟩⟩
/-- the buffer of a bytearray -/
theorem ba_payload {D : Addr} {b : Array UInt8} {Q : Array UInt8 → Shared → Prop} (hD : s.heap.get? D = some (baObj b)) (h : Q b s) : wpAny (model prog w) A (Builtin.Bytes.payload (.ref D)) Q E s := by
  unfold Builtin.Bytes.payload Builtin.Bytes.payload?
  exact wpAny_bind (wpAny_bind (wpAny_load hD (wpAny_pure (wpAny_pure h))))
theorem ba_buffer {D : Addr} {b : Array UInt8} {Q : Option (Array UInt8) → Shared → Prop} {id : String} (hD : s.heap.get? D = some (baObj b)) (h : Q (some b) s) : wpAny (model prog w) A (Builtin.Bytes.buffer? id (.ref D) true) Q E s := by
  have T : s.TypeIs (.ref D) "bytearray" := ⟨_, hD, rfl⟩
  have own : ∀ {Q : Bool → Shared → Prop}, Q true s → wpAny (model prog w) A (Builtin.Bytes.slotIsOwn (.ref D) "__buffer__") Q E s := fun q => by
    unfold Builtin.Bytes.slotIsOwn
    refine wpAny_bind (wpAny_specialOf T BA.yes_buffer (bm_if_false BA.ends_buffer ?_))
    rw [BA.drop_buffer]
    exact wpAny_isInstance T BA.sub q
  unfold Builtin.Bytes.buffer?
  refine wpAny_bind (wpAny_specialOf T BA.yes_buffer (wpAny_bind (own (bm_if_false rfl (wpAny_bind (wpAny_specialOf T BA.yes_buffer ?_))))))
  exact wpAny_bind (ba_ownRelease hD (bm_if_false rfl (wpAny_bind (ba_payload hD (wpAny_pure h)))))
/-- bytes(bytearray) -/
theorem call_bytes_ba {D : Addr} {b : Array UInt8} {Q : Value → Shared → Prop} (hD : s.heap.get? D = some (baObj b)) (hz : b.size ≤ sizeLine)
    (hQ : ∀ t k, Q (.bytes b t) { s with toks := k }) : wpAny (model prog w) A (call (.type "bytes") [.ref D]) Q E s := by
  have T : s.TypeIs (.ref D) "bytearray" := ⟨_, hD, rfl⟩
  refine bytes_called ?_ hQ
  have f1 := F.bm_sub
  have f2 := F.bm_bind (.ref D)
  have f3 := BA.ba_no_bytes
  have f4 := BA.ba_no_index
  obtain ⟨h, g, d, tk, os⟩ := s
  unfold Builtin.«bytes.__new__»
  wp_walk using ba_buffer hD
  exact ⟨_, _, rfl, rfl⟩
/-- bytes(n): noughts -/
theorem call_bytes_int {n : Int} {tn : Tok} {Q : Value → Shared → Prop} (h0 : 0 ≤ n) (hz : n.toNat ≤ sizeLine) (hz2 : n < 1000000)
    (hQ : ∀ t k, Q (.bytes (Array.replicate n.toNat 0) t) { s with toks := k }) : wpAny (model prog w) A (call (.type "bytes") [.int n tn]) Q E s := by
  refine bytes_called ?_ hQ
  have T : s.TypeIs (.int n tn) "int" := rfl
  have f1 := F.bm_sub
  have f2 := F.bm_bind (.int n tn)
  have f3 := BA.int_no_bytes
  have f4 := BA.int_index
  have f5 : asIndex (.int n tn) = pure n := rfl
  have fits : (!Builtin.Bytes.fitsIndex n) = false := by simp only [Builtin.Bytes.fitsIndex, Bool.not_eq_false', Bool.and_eq_true, decide_eq_true_eq]; omega
  have pos : ¬ n < 0 := by omega
  obtain ⟨h, g, d, tk, os⟩ := s
  unfold Builtin.«bytes.__new__»
  wp_walk
  rw [if_neg (by omega)]
  refine bm_if_false (by simp only [Builtin.Bytes.tooLong, decide_eq_false_iff_not]; omega) (wpAny_bind (wpAny_rule (wpAny_bind (wpAny_mkBytes ?_ (by rw [Array.size_replicate]; exact hz)))))
  wp_walk
  exact ⟨_, _, rfl, rfl⟩
/-- an item of a bytearray -/
theorem ba_item {value slice : PySem.Expr} {D : Addr} {b : Array UInt8} {i : Int} {ui : Tok} {c : UInt8} {Q : Value → Shared → Prop} (hD : s.heap.get? D = some (baObj b)) (h0 : 0 ≤ i) (h1 : i < 2 ^ 63) (hc : b[i.toNat]? = some c)
    (hQ : ∀ t k, Q (.int (c.toNat : Int) t) { s with toks := k })
    (hs : subscripted slice false (.ref D) (.int i ui) = operate [.ref D, .int i ui] (getItem (.ref D) (.int i ui)) := by with_unfolding_all rfl) :
    wpAny (model prog w) A (subscriptTail value slice (.ref D) (.int i ui)) Q E s := by
  have hT : s.TypeIs (.ref D) "bytearray" := ⟨_, hD, rfl⟩
  refine tail_any hT BA.slot_getitem.lookup ?_ hs
  unfold getItem
  try with_reducible refine wpAny_holding ?_
  first | refine wpAny_bind (wpAny_pure ?_) | skip
  refine wpAny_bind (wpAny_sequenceKey hT (by decide) ?_)
  refine wpAny_bind (wpAny_callSpecial?_slot (name := Str.ofString "__getitem__") hT BA.slot_getitem
    (wpAny_call_entry BA.slot_getitem hT BA.entry_getitem ?_ (BA.args_getitem _ _)))
  unfold Builtin.«bytearray.__getitem__»
  refine wpAny_bind (wpAny_of_eq (a := (.ref D, [.int i ui])) rfl ?_)
  dsimp only
  refine wpAny_bind ?_
  unfold Builtin.Bytes.subscript?
  refine wpAny_bind (wpAny_specialOf (show s.TypeIs (.int i ui) "int" from rfl) BA.int_index ?_)
  refine bm_if_false rfl ?_
  refine wpAny_bind (wpAny_of_eq (rfl : asIndex (.int i ui) = pure i) ?_)
  refine bm_if_false (by simp only [Builtin.Bytes.fitsIndex, Bool.not_eq_false', Bool.and_eq_true, decide_eq_true_eq]; omega) ?_
  refine wpAny_pure ?_
  dsimp only
  refine wpAny_bind (ba_payload hD ?_)
  have hlt : i.toNat < b.size := by
    rcases Nat.lt_or_ge i.toNat b.size with h | h
    · exact h
    · rw [Array.getElem?_eq_none h] at hc; cases hc
  have e : (seqIndex? i b.size).bind (b[·]?) = some c := by
    have hn : ¬ i < 0 := by omega
    have h2 : i < (b.size : Int) := by omega
    have e1 : seqIndex? i b.size = some i.toNat := by simp [seqIndex?, hn, h0, h2]
    rw [e1]; exact hc
  rw [e]
  show wpAny _ _ (retInt _) _ _ _
  unfold retInt
  exact wpAny_bind (wpAny_mkInt (wpAny_pure ⟨_, rfl, wpAny_pure (hQ _ _)⟩))
theorem ba_getMethod {pl : Sem Bool} {D : Addr} {b : Array UInt8} {Q : Value × List Value → Shared → Prop} (hD : s.heap.get? D = some (baObj b)) (h : Q (.builtin "bytearray.append", [.ref D]) s) :
    wpAny (model prog w) A (getMethod (.ref D) "append" pl) Q E s :=
  getMethod_builtin (T := "bytearray") ⟨_, hD, rfl⟩ BA.plainAttrs BA.slot_append BA.type_append (fun a e => by cases e; exact ⟨_, hD, rfl⟩) h
end
end Mine
end
section
namespace Mine
open PySem.Calls
section
variable {prog : Program} {w : World} {A A₀ : Around} {s : Shared} {R : Result → Shared → Prop}
/-- a frame none of whose statements raises -/
theorem frameN {body : List Stmt} {env : Env} (h : wpN (model prog w) (A.deeper env) (execs body env) (fun f s' => R (.ok (.ret (match f with | .ret v => v | _ => .none))) s') (fun _ _ => False) s) :
    codeN (model prog w) A (.func body env) R s := by
  refine codeN_of_tree (wpA_bind (A := A.deeper env) (wpAny_point ?_))
  refine wpN_bind (wpN_onRaise ?_)
  refine wpN_mono h (fun f s' q => ?_) fun _ _ q => q.elim
  cases f <;> exact wpN_pure q
/-- the def at f is called: its frame is laid at the heap's end, the cells of its own behind it -/
theorem enterN {fo : Obj} {name qual : Str} {params : Arguments} {body : List Stmt} {scope : Scope} {dV kV doc pm cdv ct : Value} {an : Option Addr} {f : Addr} {args : Args} {binds : List (Str × Value)}
    (at_ : s.heap.get? f = some fo) (is : fo.data = .func (fnX name qual params body scope [] dV kV doc pm an cdv ct)) (code : s.heap.CodeRec cdv qual) (lim : s.heap.NoLimit) (room : A.depth < recursionLimit)
    (bound : BindsTo s (fnX name qual params body scope [] dV kV doc pm an cdv ct) args binds)
    (kinds : (binds.all fun y => scope.names.lookup y.1 == some .local || scope.names.lookup y.1 == some .cell) = true) (once : ((cellsFrom 0 scope.names []).map (·.1)).Nodup)
    (co : scope.isCoroutine = false) (gen : scope.isGenerator = false) (fn : scope.kind = .function)
    (h : ∀ h₁ tk cells, Fr s.heap s.heap.objs.size h₁ (bindL (envOfC qual scope s.heap.objs.size f cdv).kindOf binds fun _ => none) → News s.heap s.heap.objs.size h₁ cells →
      CellsAre (bindC (envOfC qual scope s.heap.objs.size f cdv).kindOf binds fun _ => none) (cellsFrom (s.heap.objs.size + 1) scope.names []) cells →
      wpN (model prog w) (A.deeper (envOfC qual scope s.heap.objs.size f cdv)) (execs body (envOfC qual scope s.heap.objs.size f cdv)) (fun fl s' => R (.ok (.ret (match fl with | .ret v => v | _ => .none))) s') (fun _ _ => False) { s with heap := h₁, toks := tk }) :
    codeN (model prog w) A (.call (.ref f) args) R s := by
  obtain ⟨c, oc, vs, tq, rfl, hc, hvs, hq⟩ := code
  refine codeN_of_tree (.of ?_)
  show wpAny _ A.in1 (callAny (.ref f) args) _ _ s
  refine wpAny_bind (wpAny_load at_ ?_)
  rw [is]
  show wpAny _ A.in1 (callFunction f (fnX name qual params body scope [] dV kV doc pm an (.ref c) ct) args) _ _ s
  unfold callFunction
  refine wpAny_bind (m := field (.ref c) 1) (wpAny_field hc hvs hq (wpAny_bind (wpAny_pure ?_)))
  dsimp only
  refine wpAny_bind (bound _ _ _ _ ?_)
  refine wpAny_bind (wpAny_newFunctionEnv_cells fn (kindsX kinds _) fun env e s' x => ?_)
  subst e
  obtain ⟨h₁, tk, rfl, keep⟩ := x.done
  refine wpAny_bind (wpAny_enterFrame (lim.keeps keep) room ?_)
  rw [gen, co]
  refine wpAny_pure ⟨rfl, rfl, frameN ?_⟩
  obtain ⟨cells, made, are⟩ := Cl.news (h₀ := s.heap) (Nat.le_refl _) fun n c hm => ⟨x.cell n c (lookup_of_mem_nodup (cellsFrom_names scope.names 0 (s.heap.objs.size + 1) [] [] rfl ▸ once) hm), x.above n c hm⟩
  exact h h₁ tk cells ⟨x.toInCall.ns, keep, Nat.le_refl _⟩ made are
/-- the same from the frame of another def: the ledger goes along -/
theorem intoN {K : Frag} {p : Program} {loose : List Str} {mean : ExcName → Option Value} {mg mb : Str → Option Value} {base h₀ : Heap} {outer : List Env} {L : Addr} {m : Str → Option Value} {env : Env} {news : List (Addr × Obj)}
    {name qual : Str} {params : Arguments} {body : List Stmt} {scope : Scope} {dV kV doc pm cdv ct oc : Value} {an od : Option Addr} {osl : Array (Option Value)} {f : Addr} {args : Args} {binds : List (Str × Value)}
    (B : Below A₀ base outer h₀) (F : Fr h₀ L s.heap m) (X₀ : K.In h₀) (N : News h₀ L s.heap news) (T : Top p loose mean mg mb h₀) (hA : A.frames = some (env :: outer)) (hf : env.frame = some L) (hke : env.scope.kind = .function)
    (ho : K.lookup f = some ⟨oc, od, .func (fnOf name qual params body scope dV kV doc pm an cdv ct), osl⟩) (hcd : codeIn K cdv qual = true) (room : A.depth < recursionLimit)
    (bound : BindsTo s (fnOf name qual params body scope dV kV doc pm an cdv ct) args binds) (kinds : (binds.all fun y => scope.names.lookup y.1 == some .local || scope.names.lookup y.1 == some .cell) = true)
    (once : ((cellsFrom 0 scope.names []).map (·.1)).Nodup)
    (k : ∀ g L' h₁ tk cells, Fr h₀ L g m → Fr g L' h₁ (bindL (envOfC qual scope L' f cdv).kindOf binds fun _ => none) → News g L' h₁ (cells ++ news) →
      CellsAre (bindC (envOfC qual scope L' f cdv).kindOf binds fun _ => none) (cellsFrom (L' + 1) scope.names []) cells → Below A base (env :: outer) g → K.In g → Top p loose mean mg mb g → (∀ p ∈ news, p.1 < L') →
      wpN (model prog w) (A.deeper (envOfC qual scope L' f cdv)) (execs body (envOfC qual scope L' f cdv))
        (fun fl s' => LeaveK h₀ L m g R (match fl with | .ret v => v | _ => .none) s') (fun _ _ => False) { s with heap := h₁, toks := tk })
    (co : scope.isCoroutine = false) (gen : scope.isGenerator = false) (fn : scope.kind = .function) : codeN (model prog w) A (.call (.ref f) args) R s := by
  obtain ⟨FG, BG, st, back⟩ := groundX (R := R) B F N hA hf hke
  have X := X₀.keeps F.keep
  refine enterN (X _ _ ho) rfl (codeRec_of X hcd) (T.nolimit.keeps F.keep) room bound kinds once co gen fn fun h₁ tk cells F' C' are => ?_
  refine wpN_mono (k _ _ h₁ tk cells FG ⟨F'.ns, fun b o e => F'.keep b o (of_hideAll _ e), Nat.le_of_eq (hideAll_size _ _)⟩ (fun q hq => ?_) are BG (X₀.keeps st) (T.keeps st) fun q hq => Heap.lt_size (N q hq).1) (fun fl s' z => back _ _ z) fun _ _ z => z
  rcases List.mem_append.mp hq with hq | hq
  · refine ⟨(C' q hq).1, (C' q hq).2.1, ?_⟩
    cases e : (hideAll s.heap (news.map (·.1))).get? q.1 with
    | none => rfl
    | some o => have z := of_hideAll _ e; rw [(C' q hq).2.2] at z; cases z
  · exact ⟨F'.keep _ _ (N q hq).1, Nat.ne_of_lt (Heap.lt_size (N q hq).1), hideAll_none _ (List.mem_map_of_mem hq)⟩
end
section
variable {prog : Program} {w : World} {A : Around} {M : Model} {E : Value → Shared → Prop} {s : Shared} {env : Env}
/-- statement after statement -/
theorem wpN_execs_cons {st : Stmt} {rest : List Stmt} {Q : Flow → Shared → Prop}
    (h : wpN M A (exec st env) (fun f s' => match f with | .next => wpN M A (execs rest env) Q E s' | f => Q f s') E s) : wpN M A (execs (st :: rest) env) Q E s :=
  execs_cons env st rest ▸ wpN_bind (wpN_mono h (fun f _ q => by cases f <;> first | exact q | exact wpN_pure q) fun _ _ q => q)
theorem wpN_execs_A {st : Stmt} {rest : List Stmt} {Q : Flow → Shared → Prop}
    (h : wpAny M A (exec st env) (fun f s' => match f with | .next => wpN M A (execs rest env) Q E s' | f => Q f s') E s) : wpN M A (execs (st :: rest) env) Q E s := wpN_execs_cons (.of h)
theorem wpN_Assign_Name {x : Str} {pos' : Pos} {value : Expr} {pos : Pos} {Q : Flow → Shared → Prop}
    (h : wpN M A (eval value env) (fun v s₁ => wpAny M A (storeName env x v) (fun _ => Q .next) E s₁) E s)
    (hs : swapsWith value (some (.Name x pos')) pos.line env = pure false := by rfl) : wpN M A (exec (.Assign [.Name x pos'] value pos) env) Q E s := by
  rw [exec_Assign_Name env x pos' value pos hs]
  refine wpA_bind (wpAny_standAt (wpN_bind (wpN_mono h (fun v s₁ q => ?_) fun _ _ q => q)))
  exact .of (wpAny_bind (wpAny_standAt (wpAny_bind (wpAny_bindName (wpAny_mono q (fun _ _ z => wpAny_pure z) fun _ _ z => z)))))
theorem wpN_Return {e : Expr} {pos : Pos} {Q : Flow → Shared → Prop} (h : wpN M A (eval e env) (fun v => Q (.ret v)) E s) : wpN M A (exec (.Return (some e) pos) env) Q E s := by
  rw [exec_Return_some]
  exact wpA_bind (wpAny_standAt (wpN_bind (wpN_mono h (fun _ _ q => wpN_pure q) fun _ _ q => q)))
theorem wpN_If {test : Expr} {body orelse : List Stmt} {pos : Pos} {Q : Flow → Shared → Prop}
    (h : wpN M A (isTrue test env (eval test env)) (fun b s₂ => if b then wpN M A (execs body env) Q E s₂ else wpN M A (execs orelse env) Q E s₂) E s) : wpN M A (exec (.If test body orelse pos) env) Q E s := by
  rw [exec_If]
  exact wpA_bind (wpAny_standAt (wpN_bind (wpN_mono h (fun b _ q => by cases b <;> exact q) fun _ _ q => q)))
/-- a call whose value is dropped -/
theorem wpN_Expr {e : Expr} {pos : Pos} {Q : Flow → Shared → Prop} (h : wpN M A (eval e env) (fun v s' => match v with | .ref _ => False | _ => Q .next s') E s)
    (hi : interactive env = false := by rfl) (hs : swapsWith e none pos.line env = pure false := by rfl) : wpN M A (exec (.Expr e pos) env) Q E s := by
  rw [exec_Expr env e pos hi hs]
  refine wpA_bind (wpAny_standAt (wpN_bind (wpN_mono h (fun v s' q => ?_) fun _ _ q => q)))
  cases v with
  | ref _ => exact q.elim
  | _ => rw [dropValue_plain (by intro _ z; cases z)]; exact wpN_pure q
theorem any_operate {vs : List Value} {t : Sem Value} {Q : Value → Shared → Prop} (h : wpAny M A t Q E s) : wpAny M A (operate vs t) Q E s := fun Γ p hΓ => by rw [Sem.wp_operate]; exact h Γ p hΓ
/-- one comparison, its left side a call -/
theorem wpN_Compare1 {l : Expr} {op : CmpOp} {r : Expr} {pos : Pos} {Q : Value → Shared → Prop}
    (h : wpN M A (eval l env) (fun a s₁ => wpAny M A (eval r env) (fun b s₂ => wpAny M A (compareOp op a b) Q E s₂) E s₁) E s)
    (hm : behindInMarks op r = false := by with_unfolding_all rfl) : wpN M A (eval (.Compare l [op] [r] pos) env) Q E s := by
  rw [eval_Compare1, markedBehindIn_of_false hm]
  refine wpN_bindA (wpN_mono h (fun a s₁ q => ?_) fun _ _ q => q)
  exact wpAny_bind (wpAny_holding (wpAny_mono q (fun b s₂ z => wpAny_bind (wpAny_standAt (any_operate z))) fun _ _ z => z))
theorem wpN_isTrue_Compare1 {l : Expr} {op : CmpOp} {r : Expr} {pos : Pos} {whole : Sem Value} {Q : Bool → Shared → Prop}
    (h : wpN M A (eval l env) (fun a s₁ => wpAny M A (eval r env) (fun b s₂ => wpAny M A (compareOp op a b) (fun c s₃ => wpAny M A (truthy c) Q E s₃) E s₂) E s₁) E s)
    (hm : behindInMarks op r = false := by with_unfolding_all rfl) : wpN M A (isTrue (.Compare l [op] [r] pos) env whole) Q E s := by
  rw [isTrue_Compare1, markedBehindIn_of_false hm]
  refine wpN_bindA (wpN_mono h (fun a s₁ q => ?_) fun _ _ q => q)
  refine wpAny_bind (wpAny_holding (wpAny_mono q (fun b s₂ z => wpAny_bind (wpAny_standAt (wpAny_bind (any_operate (wpAny_mono z (fun c s₃ y => ?_) fun _ _ y => y))))) fun _ _ z => z))
  exact wpAny_holding y
/-- the call itself, its arguments reckoned before -/
theorem callWithN_of {P : Heap → Prop} {pos : Pos} {f : Value} {first : List Value} {args : List (Bool × Sem Value)} {Q : Value → Shared → Prop} (plain : args.any (·.1) = false)
    (hk : ∀ h, P h → ∃ k, (k = Keeper.frame ∨ k = Keeper.machine ∨ k = Keeper.boundFrame) ∧ Looks M h (keeperOf f) k)
    (h : wpAny M A (evalArgs f true args []) (fun a s₁ => P s₁.heap ∧ wpN M A (call f (first ++ a.pos) a.kw) Q E s₁) E s) : wpN M A (callWith pos f first args []) Q E s := by
  have behind : ∀ {t : Sem Value} {s₁ : Shared}, wpN M A t Q E s₁ → wpN M A (t >>= fun v => holding [v] point >>= fun _ => pure v) Q E s₁ := fun q =>
    wpN_bind (wpN_mono q (fun v _ z => wpA_bind (wpAny_holding (wpAny_point (wpN_pure z)))) fun _ _ z => z)
  unfold callWith
  refine wpA_bind (wpAny_holding (wpAny_mono h (fun a s₁ q => wpA_bind (wpAny_standAt ?_)) fun _ _ q => q))
  obtain ⟨k, which, look⟩ := hk _ q.1
  have kept : ∀ mk : Value, wpN M A (callMarked mk f (first ++ a.pos) a.kw) Q E s₁ := fun _ => wpN_keep q.2
  simp only [plain, List.any_nil, Bool.or_false]
  refine wpA_bind (look.here ?_)
  rcases which with rfl | rfl | rfl <;> dsimp only
  · split <;> exact behind (by first | exact q.2 | exact kept _)
  · exact behind q.2
  · split <;> exact behind (by first | exact q.2 | exact kept _)
theorem CallN {func : Expr} {args : List Expr} {pos : Pos} {Q : Value → Shared → Prop}
    (h : wpAny M A (eval func env) (fun f s₁ => wpN M A (callWith pos f [] (backTo pos (starEach args env)) []) Q E s₁) E s)
    (he : eval (.Call func args [] pos) env = (do callWith pos (← eval func env) [] (backTo pos (starEach args env)) (backToKw pos (keywordEach [] env))) := by rfl) :
    wpN M A (eval (.Call func args [] pos) env) Q E s := he ▸ wpA_bind h
/-- one of the text's own defs is called -/
theorem callWithN_K {K : Frag} {pos : Pos} {f : Value} {first : List Value} {e : Expr} {rest : List Expr} {Q : Value → Shared → Prop} (hk : keepIn K f = true)
    (h : wpAny M A (spliced (backTo pos (starEach (e :: rest) env))) (fun vs s₁ => K.In s₁.heap ∧ wpN M A (call f (first ++ vs)) Q E s₁) E s)
    (he : starEach (e :: rest) env = (false, eval e env) :: starEach rest env := by rfl) (hplain : (backTo pos (starEach rest env)).any (·.1) = false := by rfl) :
    wpN M A (callWith pos f first (backTo pos (starEach (e :: rest) env)) []) Q E s := by
  rw [he] at h ⊢
  refine callWithN_of ?_ (keeps_K hk) (evalArgs_plain h)
  show (false || (backTo pos (starEach rest env)).any (·.1)) = false
  rw [hplain]; rfl
/-- a method is called -/
theorem methodCallN {o : Expr} {name : Str} {apos pos : Pos} {args : List Expr} {pl : Sem Bool} {Q : Value → Shared → Prop}
    (h : wpAny M A (eval o env) (fun ov s₁ => wpAny M A (getMethod ov name pl) (fun fx s₂ => wpN M A (callWith pos fx.1 fx.2 (backTo pos (starEach args env)) []) Q E s₂) E s₁) E s)
    (he : eval (.Call (.Attribute o name apos) args [] pos) env = (do
      let ov ← eval o env
      standAt apos.atName
      let m ← holding [ov] (getMethod ov name pl)
      callWith pos m.1 m.2 (backTo pos (starEach args env)) []) := by rfl) : wpN M A (eval (.Call (.Attribute o name apos) args [] pos) env) Q E s := by
  rw [he]
  exact wpA_bind (wpAny_mono h (fun ov s₁ q => wpA_bind (wpAny_standAt (wpA_bind (wpAny_holding (wpAny_mono q (fun _ _ z => z) fun _ _ z => z))))) fun _ _ q => q)
end
end Mine
end
section
namespace Mine
section
variable {prog : Program} {w : World} {A : Around} {E : Value → Shared → Prop} {s : Shared} {env : Env}
/-- one turn of a for loop: it ends, or its body runs to its last statement and the loop goes on -/
theorem turnN {target : Expr} {it : Value} {body : List Stmt} {Q : Fin → Shared → Prop}
    (h : wpAny (model prog w) A (pyNext it) (fun r s₁ => (r = none → Q (.again (.block [] env)) s₁) ∧ ∀ v, r = some v → wpAny (model prog w) A (letOwnedTupleGo target it v) (fun _ s₂ => wpAny (model prog w) A (assign target env v)
      (fun _ s₃ => wpN (model prog w) A (execs body env) (fun f s₄ => f = .next ∧ Q (.again (.forLoop target it body [] env)) s₄) (fun _ _ => False) s₃) (fun _ _ => False) s₂) (fun _ _ => False) s₁) (fun _ _ => False) s) :
    wpN (model prog w) A ((forTurn target it body [] env).onRaise fun x => do noteFrame x env; theTreesLotGoes x) Q E s := by
  refine wpN_onRaise (wpN_mono (E := fun _ _ => False) ?_ (fun _ _ q => q) fun _ _ q => q.elim)
  unfold forTurn
  refine wpA_bind (wpAny_standAt (wpA_bind (wpAny_onRaise (wpAny_mono h (fun r s₁ q => ?_) fun _ _ q => q.elim))))
  match r, q with
  | none, q => exact wpN_pure (q.1 rfl)
  | some v, q =>
    refine wpA_bind (wpAny_mono (q.2 v rfl) (fun _ s₂ q => wpA_bind (wpAny_mono q (fun _ s₃ q => wpN_bind (wpN_mono q (fun f s₄ q => ?_) fun _ _ q => q)) fun _ _ q => q)) fun _ _ q => q)
    obtain ⟨rfl, q⟩ := q
    exact wpN_pure q
/-- the statement: its source is made, then the loop runs as a code of its own -/
theorem wpN_For {target iter : Expr} {body : List Stmt} {pos : Pos} {Q : Flow → Shared → Prop}
    (h : wpAny (model prog w) A (eval iter env) (fun x s₁ => wpAny (model prog w) A (pyIter x) (fun it s₂ =>
      codeN (model prog w) A (.forLoop target it body [] env) (fun r s' => match r with | .ok f => Q f s' | .error _ => False) s₂) E s₁) E s)
    (folded : ∀ x, foldedSetIterable iter env x = pure x := by intro _; rfl) : wpN (model prog w) A (exec (.For target iter body [] pos) env) Q E s := by
  have own : ∀ {it : Value} {s₂ : Shared}, codeN (model prog w) A (.forLoop target it body [] env) (fun r s' => match r with | .ok f => Q f s' | .error _ => False) s₂ →
      wpN (model prog w) A (runOwn (.forLoop target it body [] env) env none) Q E s₂ := fun q => by
    unfold runOwn
    refine wpN_onRaise (wpN_mono (wpN_run (h := none) (E := fun _ _ => False) q rfl) (fun _ _ z => z) fun _ _ z => z.elim)
  rw [exec_For]
  refine wpA_bind (wpAny_standAt (wpA_bind (wpAny_mono h (fun x s₁ q => ?_) fun _ _ q => q)))
  rw [folded x]
  exact wpA_bind (wpAny_pure (wpA_bind (wpAny_standAt (wpA_bind (wpAny_holding (wpAny_mono q (fun _ _ z => own z) fun _ _ z => z))))))
/-- a loop by what holds of the frame's map and of the ledger ahead of each turn; the iterator's own objects stand in the ledger while the body runs -/
theorem loopN {h₀ : Heap} {target : Expr} {body : List Stmt} {R : Result → Shared → Prop} {I : Addr} {fp wr : List Addr} {n : Nat} {P Md : Nat → Value → Heap → Prop} {St : Nat → Heap → Prop}
    (W : KTurns prog w A target I fp wr n P Md St) (off : env.locals ∉ fp) (new : ∀ b ∈ wr, h₀.get? b = none) (J : Nat → (Str → Option Value) → List (Addr × Obj) → Prop)
    (step : ∀ i v m news h tk own, i < n → P i v h → St (i + 1) h → (∀ p ∈ own, p.1 ∈ fp) → (∀ b ∈ wr, ∀ o, h.get? b = some o → (b, o) ∈ own) → Fr h₀ env.locals h m → News h₀ env.locals h (own ++ news) → (∀ p ∈ news, p.1 ∉ wr) → J i m news →
      wpAny (model prog w) A (assign target env v) (fun _ s₂ => wpN (model prog w) A (execs body env) (fun fl s₃ => fl = .next ∧ ∃ h' tk' m' news', s₃ = { s with heap := h', toks := tk' } ∧
        Fr h₀ env.locals h' m' ∧ News h₀ env.locals h' (own ++ news') ∧ (∀ p ∈ news', p.1 ∉ wr) ∧ J (i + 1) m' news') (fun _ _ => False) s₂) (fun _ _ => False) { s with heap := h, toks := tk })
    (last : ∀ h tk m news, Fr h₀ env.locals h m → News h₀ env.locals h news → J n m news → R (.ok .next) { s with heap := h, toks := tk }) :
    ∀ (k i : Nat) (h : Heap) (tk : Nat) (m : Str → Option Value) (news : List (Addr × Obj)), i + k = n → St i h → Fr h₀ env.locals h m → News h₀ env.locals h news → (∀ p ∈ news, p.1 ∉ wr) → J i m news →
      codeN (model prog w) A (.forLoop target (.ref I) body [] env) R { s with heap := h, toks := tk } := by
  -- what the iterator writes is none of the frame's, of the base's or of the ledger's
  have over : ∀ {h h' : Heap} {m : Str → Option Value} {news : List (Addr × Obj)}, (∀ b o, b ∉ wr → h.get? b = some o → h'.get? b = some o) → Fr h₀ env.locals h m → News h₀ env.locals h news → (∀ p ∈ news, p.1 ∉ wr) →
      Fr h₀ env.locals h' m ∧ News h₀ env.locals h' news := fun keep F N ap => by
    refine ⟨⟨F.ns.at' fun o e => keep _ o (fun hm => off (W.sub _ hm)) e, fun b o e => keep b o (fun hm => ?_) (F.keep b o e), F.above⟩, fun p hp => ⟨keep _ _ (ap p hp) (N p hp).1, (N p hp).2⟩⟩
    have z := new b hm
    rw [e] at z
    cases z
  intro k
  induction k with
  | zero =>
    intro i h tk m news hi st F N ap j
    obtain rfl : i = n := hi
    refine codeN_of_tree (A := A) (turnN ?_)
    refine W.done _ _ _ st fun h₁ tk₁ keep => ⟨fun _ => ?_, fun v z => nomatch z⟩
    obtain ⟨F₁, N₁⟩ := over keep F N ap
    exact ⟨rfl, rfl, .of (codeAny_block (wpAny_execs_nil (last h₁ tk₁ m news F₁ N₁ j)))⟩
  | succ k ih =>
    intro i h tk m news hi st F N ap j
    refine codeN_of_tree (A := A) (turnN ?_)
    refine W.item i _ _ _ (by omega) st fun v h₁ tk₁ mid keep => ⟨(fun z => nomatch z), fun v' z => ?_⟩
    obtain rfl : v = v' := Option.some.inj z
    refine W.go i v _ _ _ mid fun h₂ val st₂ keep₂ => ?_
    obtain ⟨F₂, N₂⟩ := over (fun b o hb e => keep₂ b o hb (keep b o hb e)) F N ap
    have own : News h₀ env.locals h₂ (PyProof.Rows.ownOf h₀ fp h₂) := news_ownOf off
    refine wpAny_mono (step i v m news h₂ tk₁ _ (by omega) val st₂ ownOf_sub (fun b hb o e => mem_ownOf (W.sub b hb) (new b hb) e) F₂ (own.append N₂) ap j) (fun _ s₂ q => wpN_mono q (fun fl s₃ q => ?_) fun _ _ q => q) fun _ _ q => q
    obtain ⟨rfl, h₃, tk₃, m₃, news₃, rfl, F₃, N₃, ap₃, j₃⟩ := q
    refine ⟨rfl, rfl, rfl, ih (i + 1) h₃ tk₃ m₃ news₃ (by omega) (W.frame _ _ _ st₂ fun b hb o e => ?_) F₃ N₃.right ap₃ j₃⟩
    cases low : h₀.get? b with
    | none => exact (N₃ _ (List.mem_append_left _ (mem_ownOf hb low e))).1
    | some o' =>
      have z := F₂.keep b o' low
      rw [e] at z
      exact Option.some.inj z ▸ F₃.keep b o' low
end
end Mine
end
section
namespace Mine
section
variable {prog : Program} {w : World} {A : Around} {E : Value → Shared → Prop} {s : Shared} {h₀ : Heap} {L D : Addr} {m : Str → Option Value} {news : List (Addr × Obj)} {nf : Obj → List (Addr × Obj)}
theorem ba_newK {Q : Value → Shared → Prop} (F : Fr h₀ L s.heap m) (N : News h₀ L s.heap news)
    (h : ∀ D h', Fr h₀ L h' m → News h₀ L h' ((D, baObj #[]) :: news) → (∀ p ∈ news, p.1 < D) → D ≠ L → h₀.get? D = none → D < h'.objs.size → Q (.ref D) { s with heap := h' }) :
    wpN (model prog w) A (call (.type "bytearray") []) Q E s := by
  refine ba_new fun h' hg hs => ?_
  have N1 := N.push F (baObj #[])
  have hh := N1 _ (.head _)
  exact h _ h' ((F.push _).change hs hh.2.1 hh.2.2) (N1.setHead (fun p hp => Nat.ne_of_lt (Heap.lt_size (N p hp).1)) hs hg) (fun p hp => Heap.lt_size (N p hp).1) hh.2.1 hh.2.2 (Heap.lt_size hg)
theorem updF_new {D : Addr} {o : Obj} {news : List (Addr × Obj)} {nf : Obj → List (Addr × Obj)} (U : UpdF D o news nf) {h h' : Heap} {o' : Obj} (N : News h₀ L h news) (hs : Heap.SameBut D h h') (ho : h'.get? D = some o') : News h₀ L h' (nf o') := by
  obtain ⟨pre, post, rfl, hg, p1, p2⟩ := U.split
  rw [hg]
  exact N.setIn p1 p2 hs ho
theorem ba_appendK {b : Array UInt8} {k : Int} {t : Tok} {Q : Value → Shared → Prop} (F : Fr h₀ L s.heap m) (N : News h₀ L s.heap news) (U : UpdF D (baObj b) news nf) (h0 : 0 ≤ k) (h1 : k < 256) (hz : b.size < sizeLine)
    (h : ∀ h', Fr h₀ L h' m → News h₀ L h' (nf (baObj (b.push k.toNat.toUInt8))) → Q .none { s with heap := h' }) :
    wpN (model prog w) A (call (.builtin "bytearray.append") [.ref D, .int k t]) Q E s := by
  obtain ⟨r, p1, hs', hn⟩ := updF_head U
  have hD := N _ (hs' _ (.head _))
  exact ba_append hD.1 h0 h1 hz fun h' a b => h h' (F.change b hD.2.1 hD.2.2) (updF_new U N b a)
theorem updF_app {D : Addr} {o : Obj} {own news : List (Addr × Obj)} (h1 : ∀ p ∈ own, p.1 ≠ D) (h2 : ∀ p ∈ news, p.1 ≠ D) : UpdF D o (own ++ (D, o) :: news) (fun o' => own ++ (D, o') :: news) := by
  induction own with
  | nil => exact .head h2
  | cons p r ih => exact .tail (h1 p (.head _)) (ih fun q hq => h1 q (.tail _ hq))
theorem ba_itemK {value slice : PySem.Expr} {b : Array UInt8} {ks : List Int} {i : Int} {ui : Tok} {Q : Value → Shared → Prop} (N : News h₀ L s.heap news) (U : UpdF D (baObj b) news nf) (hk : KBw.bInts b = ks) (hfit : ks.length ≤ 1000) (h0 : 0 ≤ i) (h1 : i < (ks.length : Int))
    (hQ : ∀ t k, 0 ≤ ks.getD i.toNat 0 → ks.getD i.toNat 0 < 256 → Q (.int (ks.getD i.toNat 0) t) { s with toks := k })
    (hs : subscripted slice false (.ref D) (.int i ui) = operate [.ref D, .int i ui] (getItem (.ref D) (.int i ui)) := by with_unfolding_all rfl) :
    wpAny (model prog w) A (subscriptTail value slice (.ref D) (.int i ui)) Q E s := by
  obtain ⟨r, p1, hs', hn⟩ := updF_head U
  subst hk
  rw [KBw.ints_length] at hfit h1
  have hlt : i.toNat < b.size := by omega
  have hD := (N _ (hs' _ (.head _))).1
  have e : b[i.toNat]? = some b[i.toNat] := Array.getElem?_eq_getElem hlt
  have e2 : (KBw.bInts b).getD i.toNat 0 = (b[i.toNat].toNat : Int) := by
    rw [List.getD_eq_getElem?_getD, KBw.ints_get e]; rfl
  rw [e2] at hQ
  refine ba_item hD h0 (by omega) e (fun t k => hQ t k (by omega) (by have := b[i.toNat].toNat_lt; omega)) hs
theorem callWithN_B {M : Model} {env : Env} {pos : Pos} {f : Value} {first : List Value} {e : Expr} {rest : List Expr} {Q : Value → Shared → Prop} (hk : ∀ h, Looks M h (keeperOf f) .machine)
    (h : wpAny M A (spliced (backTo pos (starEach (e :: rest) env))) (fun vs s₁ => wpN M A (call f (first ++ vs)) Q E s₁) E s)
    (he : starEach (e :: rest) env = (false, eval e env) :: starEach rest env := by rfl) (hplain : (backTo pos (starEach rest env)).any (·.1) = false := by rfl) :
    wpN M A (callWith pos f first (backTo pos (starEach (e :: rest) env)) []) Q E s := by
  rw [he] at h ⊢
  refine callWithN_of (P := fun _ => True) (by show (false || (backTo pos (starEach rest env)).any (·.1)) = false; rw [hplain]; rfl) (fun h _ => ⟨_, .inr (.inl rfl), hk h⟩) (PySem.Calls.evalArgs_plain (wpAny_mono h (fun vs s₁ x => ⟨trivial, x⟩) fun _ _ x => x))
end
/-- a contract of a def that makes bytearrays: for the stacks without a decoder -/
abbrev ToldN (w : World) (f : Addr) (nd nu : Nat) (vs : List Value) (news : List (Addr × Obj)) (Ret : Heap → Addr → (Str → Option Value) → Shared → (Value → Shared → Prop) → (Value → Shared → Prop) → Prop) : Prop :=
  ∀ (mean : ExcName → Option Value) (mg mb : Str → Option Value) (dp un : Nat) (gd : Option (List Code)) (cn : Str) (cs : Scope) (a : Addr) (ccd : Value) (cl : List (Str × Addr)) (outer : List Env) (A₀ : Around) (base h₀ : Heap) (L : Addr) (m : Str → Option Value) (s : Shared) (Q E : Value → Shared → Prop),
    Below A₀ base outer h₀ → Fr h₀ L s.heap m → (KF w.params).In h₀ → News h₀ L s.heap news → Top VW LO mean mg mb h₀ → cs.kind = .function → dp + nd < recursionLimit → un + nu < cLine →
      Ret h₀ L m s Q E → wpN (model PP w) (ktrTop dp un gd cn cs L a ccd cl outer) (call (.ref f) vs) Q E s
/-- it hands back bytes whose octets are ks -/
abbrev RBytes (news : List (Addr × Obj)) (ks : List Int) (h₀ : Heap) (L : Addr) (m : Str → Option Value) (s : Shared) (Q _E : Value → Shared → Prop) : Prop :=
  ∀ (b : Array UInt8) (t : Tok) (h' : Heap) (tk' : Nat), KBw.bInts b = ks → Fr h₀ L h' m → News h₀ L h' news → Q (.bytes b t) { s with heap := h', toks := tk' }
end Mine
end
section
namespace Mine
theorem off4 {m₁ m₀ : Str → Option Value} {x1 x2 x3 x4 : Str} (h : ∀ y, y ∉ [x1, x2, x3, x4] → m₁ y = m₀ y) :
    ∃ a b c d, m₁ = fun y => if y = x1 then a else if y = x2 then b else if y = x3 then c else if y = x4 then d else m₀ y := by
  refine ⟨m₁ x1, m₁ x2, m₁ x3, m₁ x4, funext fun y => ?_⟩
  by_cases e1 : y = x1
  · subst e1; simp
  by_cases e2 : y = x2
  · subst e2; simp [e1]
  by_cases e3 : y = x3
  · subst e3; simp [e1, e2]
  by_cases e4 : y = x4
  · subst e4; simp [e1, e2, e3]
  simp only [e1, e2, e3, e4, if_false]
  exact h y (by simp [e1, e2, e3, e4])
section
variable {prog : Program} {w : World} {A : Around} {E : Value → Shared → Prop} {s : Shared} {env : Env}
/-- for at, octet in enumerate(bytes): a bytearray grows -/
theorem enumN {h₀ : Heap} {elts : List Expr} {k : Nat} {tpos : Pos} {body : List Stmt} {R : Result → Shared → Prop} {e it D : Addr} {b : Array UInt8} {t : Tok} {m₀ : Str → Option Value} {news : List (Addr × Obj)} {old : Value}
    (hh : A.handled = none) (hei : e ≠ it) (hLe : env.locals ≠ e) (hLi : env.locals ≠ it) (he0 : h₀.get? e = none) (hi0 : h₀.get? it = none)
    (hap : ∀ p ∈ news, p.1 ≠ D) (hDe : D ≠ e) (hDi : D ≠ it) (hne : ∀ p ∈ news, p.1 ≠ e ∧ p.1 ≠ it) (IE : IsEnum s.heap e it 0 old) (IB : KBw.IsBytesIter s.heap it b t 0)
    (F : Fr h₀ env.locals s.heap m₀) (N : News h₀ env.locals s.heap ((D, baObj #[]) :: news))
    (xs : List Str) (part : Nat → List Int) (hp0 : part 0 = [])
    (step : ∀ (i : Nat) (T : Addr) (c : UInt8) (ti tc : Tok) (m₁ : Str → Option Value) (bb : Array UInt8) (h₁ : Heap) (tk₁ : Nat) (own : List (Addr × Obj)), i < b.size → b[i]? = some c → h₁.IsTuple T #[.int (i : Int) ti, .int (c.toNat : Int) tc] →
      (∀ y, y ∉ xs → m₁ y = m₀ y) → KBw.bInts bb = part i → UpdF D (baObj bb) (own ++ (D, baObj bb) :: news) (fun o => own ++ (D, o) :: news) →
      Fr h₀ env.locals h₁ m₁ → News h₀ env.locals h₁ (own ++ (D, baObj bb) :: news) →
      wpAny (model prog w) A (assign (.Tuple elts k tpos) env (.ref T)) (fun _ s₂ => wpN (model prog w) A (execs body env)
        (fun fl s₃ => match fl with
          | .next => ∃ h' tk m' bb', s₃ = { s with heap := h', toks := tk } ∧ Fr h₀ env.locals h' m' ∧ News h₀ env.locals h' (own ++ (D, baObj bb') :: news) ∧ (∀ y, y ∉ xs → m' y = m₀ y) ∧ KBw.bInts bb' = part (i + 1)
          | _ => False) (fun _ _ => False) s₂) (fun _ _ => False) { s with heap := h₁, toks := tk₁ })
    (hR : ∀ h' tk m' bb', Fr h₀ env.locals h' m' → News h₀ env.locals h' ((D, baObj bb') :: news) → (∀ y, y ∉ xs → m' y = m₀ y) → KBw.bInts bb' = part b.size → R (.ok .next) { s with heap := h', toks := tk }) :
    codeN (model prog w) A (.forLoop (.Tuple elts k tpos) (.ref e) body [] env) R s := by
  have W := KTurns.ofWalksU (elts := elts) (k := k) (pos := tpos) (WalksT.enumerateD (prog := prog) (w := w) (draws_bytes (A := A.in1) hh it b t) e hei (by simpa using hei) (by simp)).toU
  have hin : ∀ q : Addr, q ∈ [e, it] ↔ (q = e ∨ q = it) := fun q => by simp
  have apart : ∀ {bb : Array UInt8}, ∀ p ∈ (D, baObj bb) :: news, p.1 ∉ [e, it] := fun p hp hq => by
    rcases List.mem_cons.mp hp with rfl | hp
    · exact ((hin _).mp hq).elim hDe hDi
    · exact ((hin _).mp hq).elim (hne p hp).1 (hne p hp).2
  refine loopN (s := s) W (by simp [hLe, hLi]) (fun q hq => by rcases (hin q).mp hq with rfl | rfl <;> assumption)
    (fun i m₁ l => ∃ bb, l = (D, baObj bb) :: news ∧ (∀ y, y ∉ xs → m₁ y = m₀ y) ∧ KBw.bInts bb = part i) ?_ ?_ b.size 0 s.heap s.toks m₀ _ (Nat.zero_add _) ⟨⟨_, IE⟩, IB⟩ F N apart ⟨#[], rfl, fun _ _ => rfl, hp0.symm ▸ rfl⟩
  · rintro i v m₁ news₁ h₁ tk₁ own hlt ⟨T, vals, rfl, ⟨ti, x, ⟨c, tc, hc, rfl⟩, rfl⟩, hT⟩ hst hown hall F₁ N₁ hnw ⟨bb, rfl, hoff, hpart⟩
    have ho : ∀ p ∈ own, p.1 ≠ D := fun p hp hq => ((hin _).mp (hq ▸ hown p hp)).elim hDe hDi
    refine wpAny_mono (step i T c ti tc m₁ bb h₁ tk₁ own hlt hc hT hoff hpart (updF_app ho hap) F₁ N₁) (fun _ s₂ h₂' => wpN_mono h₂' (fun f s₃ h₃ => ?_) fun _ _ x => x) fun _ _ x => x
    match f, h₃ with
    | .next, ⟨h', tk, m', bb', e, F', N', o', p'⟩ => exact ⟨rfl, h', tk, m', _, e, F', N', apart, bb', rfl, o', p'⟩
  · rintro h' tk m' news' F' N' ⟨bb, rfl, o', p'⟩
    exact hR h' tk m' bb F' N' o' p'
theorem For_enumB {h₀ : Heap} {elts : List Expr} {k : Nat} {tpos : Pos} {body : List Stmt} {R : Result → Shared → Prop} {D : Addr} {b : Array UInt8} {t : Tok} {m₀ : Str → Option Value} {news : List (Addr × Obj)}
    (hh : A.handled = none) (hap : ∀ p ∈ news, p.1 ≠ D)
    (F : Fr h₀ env.locals s.heap m₀) (N : News h₀ env.locals s.heap ((D, baObj #[]) :: news))
    (xs : List Str) (part : Nat → List Int) (hp0 : part 0 = [])
    (step : ∀ (i : Nat) (T : Addr) (c : UInt8) (ti tc : Tok) (m₁ : Str → Option Value) (bb : Array UInt8) (h₁ : Heap) (tk₁ : Nat) (own : List (Addr × Obj)), i < b.size → b[i]? = some c → h₁.IsTuple T #[.int (i : Int) ti, .int (c.toNat : Int) tc] →
      (∀ y, y ∉ xs → m₁ y = m₀ y) → KBw.bInts bb = part i → UpdF D (baObj bb) (own ++ (D, baObj bb) :: news) (fun o => own ++ (D, o) :: news) →
      Fr h₀ env.locals h₁ m₁ → News h₀ env.locals h₁ (own ++ (D, baObj bb) :: news) →
      wpAny (model prog w) A (assign (.Tuple elts k tpos) env (.ref T)) (fun _ s₂ => wpN (model prog w) A (execs body env)
        (fun fl s₃ => match fl with
          | .next => ∃ h' tk m' bb', s₃ = { s with heap := h', toks := tk } ∧ Fr h₀ env.locals h' m' ∧ News h₀ env.locals h' (own ++ (D, baObj bb') :: news) ∧ (∀ y, y ∉ xs → m' y = m₀ y) ∧ KBw.bInts bb' = part (i + 1)
          | _ => False) (fun _ _ => False) s₂) (fun _ _ => False) { s with heap := h₁, toks := tk₁ })
    (hR : ∀ h' tk m' bb', Fr h₀ env.locals h' m' → News h₀ env.locals h' ((D, baObj bb') :: news) → (∀ y, y ∉ xs → m' y = m₀ y) → KBw.bInts bb' = part b.size → R (.ok .next) { s with heap := h', toks := tk }) :
    wpAny (model prog w) A (call (.type "enumerate") [.bytes b t]) (fun x s₁ => wpAny (model prog w) A (pyIter x) (fun it s₂ =>
      codeN (model prog w) A (.forLoop (.Tuple elts k tpos) it body [] env) R s₂) E s₁) E s := by
  refine call_enumerate_bytes fun hE IE IB zE kE => ?_
  have W := (WalksT.enumerateD (prog := prog) (w := w) (draws_bytes (A := A.in1) hh s.heap.objs.size b t) (s.heap.objs.size + 1) (Nat.succ_ne_self _) (by simp) (by simp))
  refine W.self 0 _ _ _ ⟨⟨_, IE⟩, IB⟩ ?_
  have new : ∀ q, s.heap.objs.size ≤ q → h₀.get? q = none := fun q hq => by
    cases e : h₀.get? q with
    | none => rfl
    | some o => exact absurd (Heap.lt_size (F.keep q o e)) (Nat.not_lt.mpr hq)
  have lt : ∀ p ∈ (D, baObj #[]) :: news, p.1 < s.heap.objs.size := fun p hp => Heap.lt_size (N p hp).1
  have ltL : env.locals < s.heap.objs.size := F.ns.lt
  have ltD := lt _ (.head _)
  dsimp only at ltD
  refine enumN hh (Nat.succ_ne_self _) (Nat.ne_of_lt (Nat.lt_succ_of_lt ltL)) (Nat.ne_of_lt ltL) (new _ (Nat.le_succ _)) (new _ (Nat.le_refl _)) hap (Nat.ne_of_lt (Nat.lt_succ_of_lt ltD)) (Nat.ne_of_lt ltD) (fun p hp => ?_) IE IB (F.keeps kE) (N.grown kE) xs part hp0 step hR
  have := lt _ (.tail _ hp)
  exact ⟨Nat.ne_of_lt (Nat.lt_succ_of_lt this), Nat.ne_of_lt this⟩
end
end Mine
end
section
namespace Mine
/-- the octet that lies `st` before, or nought -/
def backF (xs : List Int) (st : Int) (i : Nat) : Int := if st ≤ (i : Int) then xs.getD (i - st.toNat) 0 else 0
def filtAt (k : Int) (row above : List Int) (st : Int) (i : Nat) : Int := (row.getD i 0 - guessF k (backF row st i) (above.getD i 0) (backF above st i)).fmod 256
def filtF (k : Int) (row above : List Int) (st : Int) : List Int := (List.range row.length).map (filtAt k row above st)
def partF (f : Nat → Int) (i : Nat) : List Int := (List.range i).map f
theorem partF_zero (f : Nat → Int) : partF f 0 = [] := rfl
theorem partF_succ (f : Nat → Int) (i : Nat) : partF f (i + 1) = partF f i ++ [f i] := by simp [partF, List.range_succ]
theorem partF_length (f : Nat → Int) (i : Nat) : (partF f i).length = i := by simp [partF]
theorem ints_push (b : Array UInt8) {k : Int} (h0 : 0 ≤ k) (h1 : k < 256) : KBw.bInts (b.push k.toNat.toUInt8) = KBw.bInts b ++ [k] := by
  have e : (k.toNat.toUInt8.toNat : Int) = k := by
    have : k.toNat < 256 := by omega
    rw [UInt8.toNat_ofNat']
    omega
  unfold KBw.bInts
  rw [Array.toList_push, List.map_append, List.map_cons, List.map_nil, e]
theorem ints_getD {b : Array UInt8} {i : Nat} {o : UInt8} (h : b[i]? = some o) : (KBw.bInts b).getD i 0 = (o.toNat : Int) := by
  rw [List.getD_eq_getElem?_getD, KBw.ints_get h]; rfl
theorem sub_toNat {i : Nat} {st : Int} (h0 : 0 ≤ st) : ((i : Int) - st).toNat = i - st.toNat := by omega
theorem bitAnd_255 (x : Int) : Builtin.bitAnd x 255 = x.fmod 256 := by
  rw [PyProof.Rows.bitAnd_m8, Int.fmod_eq_emod_of_nonneg _ (by decide)]
theorem filtAt_yes {k st : Int} {b c : Array UInt8} {i : Nat} {o : UInt8} (h0 : 0 ≤ st) (h : st ≤ (i : Int)) (ho : b[i]? = some o) :
    Builtin.bitAnd ((o.toNat : Int) - guessF k ((KBw.bInts b).getD ((i : Int) - st).toNat 0) ((KBw.bInts c).getD ((i : Int)).toNat 0) ((KBw.bInts c).getD ((i : Int) - st).toNat 0)) 255 = filtAt k (KBw.bInts b) (KBw.bInts c) st i := by
  rw [bitAnd_255, sub_toNat h0, Int.toNat_natCast]
  unfold filtAt backF
  rw [if_pos h, if_pos h, ints_getD ho]
theorem filtAt_no {k st : Int} {b c : Array UInt8} {i : Nat} {o : UInt8} (h : ¬ st ≤ (i : Int)) (ho : b[i]? = some o) :
    Builtin.bitAnd ((o.toNat : Int) - guessF k 0 ((KBw.bInts c).getD ((i : Int)).toNat 0) 0) 255 = filtAt k (KBw.bInts b) (KBw.bInts c) st i := by
  rw [bitAnd_255, Int.toNat_natCast]
  unfold filtAt backF
  rw [if_neg h, if_neg h, ints_getD ho]
theorem bitAnd_in (x : Int) : 0 ≤ Builtin.bitAnd x 255 ∧ Builtin.bitAnd x 255 < 256 := by
  rw [bitAnd_255]; exact fmod_in x (by decide)
theorem fmod_back {r g : Int} (h0 : 0 ≤ r) (h1 : r < 256) : ((r - g).fmod 256 + g).fmod 256 = r := by
  rw [Int.fmod_eq_emod_of_nonneg _ (by decide), Int.fmod_eq_emod_of_nonneg _ (by decide)]
  omega
theorem getD_range {xs : List Int} (h : ∀ x ∈ xs, 0 ≤ x ∧ x < 256) (i : Nat) : 0 ≤ xs.getD i 0 ∧ xs.getD i 0 < 256 := by
  rw [List.getD_eq_getElem?_getD]
  cases e : xs[i]? with
  | none => decide
  | some y => exact h y (List.mem_of_getElem? e)
theorem partF_getD (f : Nat → Int) {i j : Nat} (h : j < i) : (partF f i).getD j 0 = f j := by
  rw [List.getD_eq_getElem?_getD]
  simp [partF, h]
theorem partF_self (xs : List Int) : partF (fun i => xs.getD i 0) xs.length = xs := by
  refine List.ext_getElem (by simp [partF]) fun n h1 h2 => ?_
  simp [partF, h2]
theorem filtF_length (k : Int) (row above : List Int) (st : Int) : (filtF k row above st).length = row.length := by simp [filtF]
theorem unf_yes {k st : Int} {b c : Array UInt8} {row : List Int} {i : Nat} {o : UInt8} (h1 : 1 ≤ st) (h : st ≤ (i : Int)) (hi : i < b.size) (ho : b[i]? = some o) (hb : KBw.bInts b = filtF k row (KBw.bInts c) st)
    (hr : ∀ x ∈ row, 0 ≤ x ∧ x < 256) :
    Builtin.bitAnd ((o.toNat : Int) + guessF k ((partF (fun i => row.getD i 0) i).getD ((i : Int) - st).toNat 0) ((KBw.bInts c).getD ((i : Int)).toNat 0) ((KBw.bInts c).getD ((i : Int) - st).toNat 0)) 255 = row.getD i 0 := by
  have hlen : b.size = row.length := by rw [← KBw.ints_length, hb, filtF_length]
  have e1 : (o.toNat : Int) = filtAt k row (KBw.bInts c) st i := by
    rw [← ints_getD ho, hb]
    exact partF_getD _ (by omega)
  rw [bitAnd_255, e1, sub_toNat (by omega), partF_getD _ (by omega), Int.toNat_natCast]
  unfold filtAt backF
  rw [if_pos h, if_pos h]
  exact fmod_back (getD_range hr i).1 (getD_range hr i).2
theorem unf_no {k st : Int} {b c : Array UInt8} {row : List Int} {i : Nat} {o : UInt8} (h : ¬ st ≤ (i : Int)) (hi : i < b.size) (ho : b[i]? = some o) (hb : KBw.bInts b = filtF k row (KBw.bInts c) st)
    (hr : ∀ x ∈ row, 0 ≤ x ∧ x < 256) :
    Builtin.bitAnd ((o.toNat : Int) + guessF k 0 ((KBw.bInts c).getD ((i : Int)).toNat 0) 0) 255 = row.getD i 0 := by
  have hlen : b.size = row.length := by rw [← KBw.ints_length, hb, filtF_length]
  have e1 : (o.toNat : Int) = filtAt k row (KBw.bInts c) st i := by
    rw [← ints_getD ho, hb]
    exact partF_getD _ (by omega)
  rw [bitAnd_255, e1, Int.toNat_natCast]
  unfold filtAt backF
  rw [if_neg h, if_neg h]
  exact fmod_back (getD_range hr i).1 (getD_range hr i).2
theorem ints_zeros (n : Nat) : KBw.bInts (Array.replicate n 0) = List.replicate n 0 := by simp [KBw.bInts]
theorem filtAt_in (k : Int) (row above : List Int) (st : Int) (i : Nat) : 0 ≤ filtAt k row above st i ∧ filtAt k row above st i < 256 := fmod_in _ (by decide)
theorem partF_in {f : Nat → Int} (n : Nat) (h : ∀ i, 0 ≤ f i ∧ f i < 256) : ∀ x ∈ partF f n, 0 ≤ x ∧ x < 256 := by
  intro x hx
  obtain ⟨i, _, rfl⟩ := List.mem_map.mp hx
  exact h i
theorem pad_getD (xs : List Int) (n j : Nat) : (List.replicate n (0 : Int) ++ xs).getD j 0 = if n ≤ j then xs.getD (j - n) 0 else 0 := by
  rw [List.getD_eq_getElem?_getD]
  split
  · rename_i h
    rw [List.getElem?_append_right (by simpa using h), List.length_replicate, List.getD_eq_getElem?_getD]
  · rename_i h
    rw [List.getElem?_append_left (by simpa using Nat.lt_of_not_le h), List.getElem?_replicate]
    simp [Nat.lt_of_not_le h]
theorem due_at {k st : Int} {row ahead : List Int} {i : Nat} (hc : ahead.length = row.length) (hi : i < row.length) (h1 : 1 ≤ st) :
    ((List.replicate st.toNat (0 : Int) ++ row).getD ((i : Int) + st).toNat 0 - guessF k ((List.replicate st.toNat (0 : Int) ++ row).getD ((i : Int)).toNat 0) ((List.replicate st.toNat (0 : Int) ++ ahead).getD ((i : Int) + st).toNat 0) ((List.replicate st.toNat (0 : Int) ++ ahead).getD ((i : Int)).toNat 0)).fmod 256
      = filtAt k row ahead st i := by
  have e1 : ((i : Int) + st).toNat = st.toNat + i := by omega
  simp only [pad_getD, e1, Int.toNat_natCast, Nat.le_add_right, if_true, Nat.add_sub_cancel_left]
  unfold filtAt backF
  by_cases h : st ≤ (i : Int)
  · simp only [if_pos h, if_pos (show st.toNat ≤ i by omega)]
  · simp only [if_neg h, if_neg (show ¬ st.toNat ≤ i by omega)]
theorem ints_inj_list : ∀ {a b : List UInt8}, (a.map fun c => (c.toNat : Int)) = (b.map fun c => (c.toNat : Int)) → a = b
  | [], [], _ => rfl
  | [], _ :: _, h => by cases h
  | _ :: _, [], h => by cases h
  | x :: r, y :: t, h => by
    simp only [List.map_cons, List.cons.injEq] at h
    have e : x.toNat = y.toNat := by omega
    rw [UInt8.toNat_inj.mp e, ints_inj_list h.2]
theorem ints_inj {a b : Array UInt8} (h : KBw.bInts a = KBw.bInts b) : a.toList = b.toList := ints_inj_list h
end Mine
end
section
local macro_rules | `(tactic| walk_at "no key of the walk") => `(tactic| fail "no line")
local macro_rules | `(tactic| walk_at "no key of the walk") => `(tactic| fail "no line")
local macro_rules | `(tactic| walk_at "no key of the walk") => `(tactic| fail "no line")
local macro_rules | `(tactic| walk_at "no key of the walk") => `(tactic| fail "no line")
namespace Mine
section
local macro_rules | `(tactic| walk_at "call ref") => `(tactic| (k_here; first | with_reducible refine heldAt 64 ?_))
local macro_rules | `(tactic| walk_at "eval Call Name") => `(tactic| (k_here; (fail_if_success (with_reducible show wpAny _ _ (eval (Expr.Call (Expr.Name "range" _) _ _ _) _) _ _ _)); with_reducible refine Call_ ?_))
local macro_rules | `(tactic| k_all) => `(tactic| first | assumption | (refine ne_next (by assumption) ?_; omega))

local macro_rules | `(tactic| walk_at "subscriptTail Name BinOp bytes int") => `(tactic| (k_here; (with_reducible show wpAny _ _ (subscriptTail _ _ (Value.bytes _ _) (Value.int _ _)) _ _ _); refine KBw.item_K rfl (by rw [KBw.ints_length]; omega) (by omega) (by rw [KBw.ints_length]; omega) fun tI kI lI uI => ?_))
local macro_rules | `(tactic| walk_at "subscriptTail Name Name bytes int") => `(tactic| (k_here; (with_reducible show wpAny _ _ (subscriptTail _ _ (Value.bytes _ _) (Value.int _ _)) _ _ _); refine KBw.item_K rfl (by rw [KBw.ints_length]; omega) (by omega) (by rw [KBw.ints_length]; omega) fun tI kI lI uI => ?_))
set_option maxHeartbeats 8000000 in
theorem filtered_callN (w : World) (b c : Array UInt8) (k st : Int) (t1 t2 t3 t4 : Tok) (news : List (Addr × Obj)) (hb : b.size ≤ 8) (hc : c.size = b.size) (h0 : 1 ≤ st) (h1 : st ≤ 3) (hk : 0 ≤ k) (hk5 : k < 5) : ToldN w 71 3 32 [.int k t4, .bytes b t1, .bytes c t2, .int st t3] news (RBytes news (filtF k (KBw.bInts b) (KBw.bInts c) st)) := by
  w_top off
  dsimp only [ToldN, KF, VW, LO, PP]
  k_fill
  intros
  rename_i hret
  refine wpN_call ?_
  (first | k_dflt (refine' intoN ?k1 ?k2 ?k3 ?k4 ?k5 ?kA ?kF ?kK ?k6 ?k7 ?k8 ?k9 ?kB ?kD ?_ ?c2 ?c3 ?c4; (case kA => exact rfl); (case kF => exact rfl); (case kK => first | exact rfl | assumption); (case k1 => k_asm); (case k2 => k_asm); (case k3 => k_asm); (case k4 => k_asm); (case k5 => k_asm); (case k6 => k_is); (case k7 => k_is); (case k8 => ktr_room); (case k9 => first | exact BindsTo.of_eq rfl | exact binds_K (by k_in) rfl (by k_is) rfl rfl rfl); (case kB => exact rfl); (case kD => decide +kernel); (case c2 => exact rfl); (case c3 => exact rfl); (case c4 => exact rfl); k_whole; intro g' L' h' tk' cells' FG' F' N' Y' B' X' T' lN; (have Y0 : CellsAre _ [] cells' := Y'); cases Y0; clear Y'; (try simp only [List.cons_append, List.nil_append] at N'); (try dsimp only); (try k_lift B'); (try k_fold)) | fail "not entered")
  refine wpN_execs_cons (wpN_Assign_Name (CallN ?_))
  (k_steps; repeat (any_goals ((refine unheld ?_; first | ((with_reducible show wpAny _ _ (PySem.call (Value.ref 64) [Value.int _ _, Value.int _ _, Value.int _ _, Value.int _ _]) _ _ _); k_dflt (refine' guess_call _ _ _ _ _ _ _ _ _ _ ?zh0z ?zh1z _ _ _ _ _ _ _ _ _ _ _ _ _ _ _ _ _ _ _ _ ?zkBz ?zkFz ?zkXz ?zkNz ?zkTz ?zkkz ?zkdz ?zkuz ?_; (case zkBz => k_asm); (case zkFz => k_asm); (case zkXz => k_asm); (case zkNz => k_asm); (case zkTz => k_asm); (case zkkz => first | exact rfl | assumption); (case zkdz => ktr_room); (case zkuz => ktr_units); (case zh0z => first | assumption | omega); (case zh1z => first | assumption | omega)); intro t9 h9 tk9 F9 N9; (try dsimp only); (try k_fold); (try k_sweep))); (try k_steps))))
  refine callWithN_of (P := fun _ => True) rfl (fun h _ => ⟨_, .inr (.inl rfl), Looks.of_pure rfl⟩) (evalArgs_nil3 ⟨trivial, ?_⟩)
  refine ba_newK (by k_asm) (by k_asm) fun D h5 F5 N5 ap5 nL5 n05 lt5 => ?_
  (k_steps; repeat (any_goals ((refine unheld ?_; first | ((with_reducible show wpAny _ _ (PySem.call (Value.ref 64) [Value.int _ _, Value.int _ _, Value.int _ _, Value.int _ _]) _ _ _); k_dflt (refine' guess_call _ _ _ _ _ _ _ _ _ _ ?zh0z ?zh1z _ _ _ _ _ _ _ _ _ _ _ _ _ _ _ _ _ _ _ _ ?zkBz ?zkFz ?zkXz ?zkNz ?zkTz ?zkkz ?zkdz ?zkuz ?_; (case zkBz => k_asm); (case zkFz => k_asm); (case zkXz => k_asm); (case zkNz => k_asm); (case zkTz => k_asm); (case zkkz => first | exact rfl | assumption); (case zkdz => ktr_room); (case zkuz => ktr_units); (case zh0z => first | assumption | omega); (case zh1z => first | assumption | omega)); intro t9 h9 tk9 F9 N9; (try dsimp only); (try k_fold); (try k_sweep))); (try k_steps))))
  refine wpN_execs_cons (wpN_For ?_)
  (k_steps; repeat (any_goals ((refine unheld ?_; first | ((with_reducible show wpAny _ _ (PySem.call (Value.ref 64) [Value.int _ _, Value.int _ _, Value.int _ _, Value.int _ _]) _ _ _); k_dflt (refine' guess_call _ _ _ _ _ _ _ _ _ _ ?zh0z ?zh1z _ _ _ _ _ _ _ _ _ _ _ _ _ _ _ _ _ _ _ _ ?zkBz ?zkFz ?zkXz ?zkNz ?zkTz ?zkkz ?zkdz ?zkuz ?_; (case zkBz => k_asm); (case zkFz => k_asm); (case zkXz => k_asm); (case zkNz => k_asm); (case zkTz => k_asm); (case zkkz => first | exact rfl | assumption); (case zkdz => ktr_room); (case zkuz => ktr_units); (case zh0z => first | assumption | omega); (case zh1z => first | assumption | omega)); intro t9 h9 tk9 F9 N9; (try dsimp only); (try k_fold); (try k_sweep))); (try k_steps))))
  refine For_enumB rfl (fun p hp => Nat.ne_of_lt (ap5 p hp)) (by assumption) (by assumption) ["at", "octet", "left", "corner"] (partF (filtAt k (KBw.bInts b) (KBw.bInts c) st)) rfl (fun i T o ti tc m₁ bb h₁ tk₁ own hi ho hT hoff hpart hU F₁ N₁ => ?_) (fun h₂ tk₂ m₂ bb F₂ N₂ hoff hpart => ?_)
  · clear hret
    obtain ⟨x1, x2, x3, x4, rfl⟩ := off4 hoff
    clear hoff
    refine postN2 fun Q8 hQ8 => ?_
    (k_steps; repeat (any_goals ((refine unheld ?_; first | ((with_reducible show wpAny _ _ (PySem.call (Value.ref 64) [Value.int _ _, Value.int _ _, Value.int _ _, Value.int _ _]) _ _ _); k_dflt (refine' guess_call _ _ _ _ _ _ _ _ _ _ ?zh0z ?zh1z _ _ _ _ _ _ _ _ _ _ _ _ _ _ _ _ _ _ _ _ ?zkBz ?zkFz ?zkXz ?zkNz ?zkTz ?zkkz ?zkdz ?zkuz ?_; (case zkBz => k_asm); (case zkFz => k_asm); (case zkXz => k_asm); (case zkNz => k_asm); (case zkTz => k_asm); (case zkkz => first | exact rfl | assumption); (case zkdz => ktr_room); (case zkuz => ktr_units); (case zh0z => first | assumption | omega); (case zh1z => first | assumption | omega)); intro t9 h9 tk9 F9 N9; (try dsimp only); (try k_fold); (try k_sweep))); (try k_steps))))
    refine wpN_execs_A ?_
    (k_steps; repeat (any_goals ((refine unheld ?_; first | ((with_reducible show wpAny _ _ (PySem.call (Value.ref 64) [Value.int _ _, Value.int _ _, Value.int _ _, Value.int _ _]) _ _ _); k_dflt (refine' guess_call _ _ _ _ _ _ _ _ _ _ ?zh0z ?zh1z _ _ _ _ _ _ _ _ _ _ _ _ _ _ _ _ _ _ _ _ ?zkBz ?zkFz ?zkXz ?zkNz ?zkTz ?zkkz ?zkdz ?zkuz ?_; (case zkBz => k_asm); (case zkFz => k_asm); (case zkXz => k_asm); (case zkNz => k_asm); (case zkTz => k_asm); (case zkkz => first | exact rfl | assumption); (case zkdz => ktr_room); (case zkuz => ktr_units); (case zh0z => first | assumption | omega); (case zh1z => first | assumption | omega)); intro t9 h9 tk9 F9 N9; (try dsimp only); (try k_fold); (try k_sweep))); (try k_steps))))
    all_goals (try dsimp only)
    all_goals refine wpN_execs_A ?_
    all_goals (k_steps; repeat (any_goals ((refine unheld ?_; first | ((with_reducible show wpAny _ _ (PySem.call (Value.ref 64) [Value.int _ _, Value.int _ _, Value.int _ _, Value.int _ _]) _ _ _); k_dflt (refine' guess_call _ _ _ _ _ _ _ _ _ _ ?zh0z ?zh1z _ _ _ _ _ _ _ _ _ _ _ _ _ _ _ _ _ _ _ _ ?zkBz ?zkFz ?zkXz ?zkNz ?zkTz ?zkkz ?zkdz ?zkuz ?_; (case zkBz => k_asm); (case zkFz => k_asm); (case zkXz => k_asm); (case zkNz => k_asm); (case zkTz => k_asm); (case zkkz => first | exact rfl | assumption); (case zkdz => ktr_room); (case zkuz => ktr_units); (case zh0z => first | assumption | omega); (case zh1z => first | assumption | omega)); intro t9 h9 tk9 F9 N9; (try dsimp only); (try k_fold); (try k_sweep))); (try k_steps))))
    all_goals (try dsimp only)
    all_goals refine wpN_execs_cons (wpN_Expr (methodCallN ?_))
    all_goals (k_steps; repeat (any_goals ((refine unheld ?_; first | ((with_reducible show wpAny _ _ (PySem.call (Value.ref 64) [Value.int _ _, Value.int _ _, Value.int _ _, Value.int _ _]) _ _ _); k_dflt (refine' guess_call _ _ _ _ _ _ _ _ _ _ ?zh0z ?zh1z _ _ _ _ _ _ _ _ _ _ _ _ _ _ _ _ _ _ _ _ ?zkBz ?zkFz ?zkXz ?zkNz ?zkTz ?zkkz ?zkdz ?zkuz ?_; (case zkBz => k_asm); (case zkFz => k_asm); (case zkXz => k_asm); (case zkNz => k_asm); (case zkTz => k_asm); (case zkkz => first | exact rfl | assumption); (case zkdz => ktr_room); (case zkuz => ktr_units); (case zh0z => first | assumption | omega); (case zh1z => first | assumption | omega)); intro t9 h9 tk9 F9 N9; (try dsimp only); (try k_fold); (try k_sweep))); (try k_steps))))
    all_goals refine ba_getMethod ((by assumption : News _ _ _ _) _ (List.mem_append_right _ (.head _))).1 ?_
    all_goals (try dsimp only)
    all_goals refine callWithN_B (fun h => Looks.of_pure rfl) ?_
    all_goals (k_steps; repeat (any_goals ((refine unheld ?_; first | ((with_reducible show wpAny _ _ (PySem.call (Value.ref 64) [Value.int _ _, Value.int _ _, Value.int _ _, Value.int _ _]) _ _ _); k_dflt (refine' guess_call _ _ _ _ _ _ _ _ _ _ ?zh0z ?zh1z _ _ _ _ _ _ _ _ _ _ _ _ _ _ _ _ _ _ _ _ ?zkBz ?zkFz ?zkXz ?zkNz ?zkTz ?zkkz ?zkdz ?zkuz ?_; (case zkBz => k_asm); (case zkFz => k_asm); (case zkXz => k_asm); (case zkNz => k_asm); (case zkTz => k_asm); (case zkkz => first | exact rfl | assumption); (case zkdz => ktr_room); (case zkuz => ktr_units); (case zh0z => first | assumption | omega); (case zh1z => first | assumption | omega)); intro t9 h9 tk9 F9 N9; (try dsimp only); (try k_fold); (try k_sweep))); (try k_steps))))
    all_goals refine ba_appendK (by assumption) (by assumption) hU (bitAnd_in _).1 (bitAnd_in _).2 ?_ fun h7 F7 N7 => ?_
    all_goals first
      | (have := congrArg List.length hpart
         rw [KBw.ints_length, partF_length] at this
         rw [PySem.sizeLine_eq]; omega)
      | (refine .of (wpAny_execs_nil (hQ8 _ _ ⟨_, _, _, _, rfl, F7, N7, ?_, (ints_push _ (bitAnd_in _).1 (bitAnd_in _).2).trans ?_⟩))
         · intro y hy
           simp only [List.mem_cons, List.not_mem_nil, or_false, not_or] at hy
           simp only [hy.1, hy.2.1, hy.2.2.1, hy.2.2.2, if_false]
         · rw [partF_succ, hpart]
           first | rw [filtAt_yes (by omega) (by assumption) ho] | rw [filtAt_no (by assumption) ho])
  · obtain ⟨x1, x2, x3, x4, rfl⟩ := off4 hoff
    clear hoff
    refine wpN_execs_A ?_
    (k_steps; repeat (any_goals ((refine unheld ?_; first | ((with_reducible show wpAny _ _ (PySem.call (Value.ref 64) [Value.int _ _, Value.int _ _, Value.int _ _, Value.int _ _]) _ _ _); k_dflt (refine' guess_call _ _ _ _ _ _ _ _ _ _ ?zh0z ?zh1z _ _ _ _ _ _ _ _ _ _ _ _ _ _ _ _ _ _ _ _ ?zkBz ?zkFz ?zkXz ?zkNz ?zkTz ?zkkz ?zkdz ?zkuz ?_; (case zkBz => k_asm); (case zkFz => k_asm); (case zkXz => k_asm); (case zkNz => k_asm); (case zkTz => k_asm); (case zkkz => first | exact rfl | assumption); (case zkdz => ktr_room); (case zkuz => ktr_units); (case zh0z => first | assumption | omega); (case zh1z => first | assumption | omega)); intro t9 h9 tk9 F9 N9; (try dsimp only); (try k_fold); (try k_sweep))); (try k_steps))))
    refine call_bytes_ba (N₂ _ (.head _)).1 ?_ fun t k => ?_
    · have := congrArg List.length hpart
      rw [KBw.ints_length] at this
      simp [partF] at this
      rw [PySem.sizeLine_eq]; omega
    (k_steps; repeat (any_goals ((refine unheld ?_; first | ((with_reducible show wpAny _ _ (PySem.call (Value.ref 64) [Value.int _ _, Value.int _ _, Value.int _ _, Value.int _ _]) _ _ _); k_dflt (refine' guess_call _ _ _ _ _ _ _ _ _ _ ?zh0z ?zh1z _ _ _ _ _ _ _ _ _ _ _ _ _ _ _ _ _ _ _ _ ?zkBz ?zkFz ?zkXz ?zkNz ?zkTz ?zkkz ?zkdz ?zkuz ?_; (case zkBz => k_asm); (case zkFz => k_asm); (case zkXz => k_asm); (case zkNz => k_asm); (case zkTz => k_asm); (case zkkz => first | exact rfl | assumption); (case zkdz => ktr_room); (case zkuz => ktr_units); (case zh0z => first | assumption | omega); (case zh1z => first | assumption | omega)); intro t9 h9 tk9 F9 N9; (try dsimp only); (try k_fold); (try k_sweep))); (try k_steps))))
    rename News _ _ _ _ => kN9
    rename Fr _ _ _ _ => kF9
    exact hret _ _ _ _ (hpart.trans (by rw [← KBw.ints_length]; rfl)) kF9 (cb_drop kN9 (fun p hp => List.mem_cons_of_mem _ hp))
end
end Mine
end
section
namespace Mine
section
local macro_rules | `(tactic| walk_at "call ref") => `(tactic| (k_here; first | with_reducible refine heldAt 64 ?_))
local macro_rules | `(tactic| walk_at "eval Call Name") => `(tactic| (k_here; (fail_if_success (with_reducible show wpAny _ _ (eval (Expr.Call (Expr.Name "range" _) _ _ _) _) _ _ _)); with_reducible refine Call_ ?_))
local macro_rules | `(tactic| k_all) => `(tactic| first | assumption | (refine ne_next (by assumption) ?_; omega))

local macro_rules | `(tactic| walk_at "subscriptTail Name BinOp bytes int") => `(tactic| (k_here; (with_reducible show wpAny _ _ (subscriptTail _ _ (Value.bytes _ _) (Value.int _ _)) _ _ _); refine KBw.item_K rfl (by rw [KBw.ints_length]; omega) (by omega) (by rw [KBw.ints_length]; omega) fun tI kI lI uI => ?_))
local macro_rules | `(tactic| walk_at "subscriptTail Name Name bytes int") => `(tactic| (k_here; (with_reducible show wpAny _ _ (subscriptTail _ _ (Value.bytes _ _) (Value.int _ _)) _ _ _); refine KBw.item_K rfl (by rw [KBw.ints_length]; omega) (by omega) (by rw [KBw.ints_length]; omega) fun tI kI lI uI => ?_))
local macro_rules | `(tactic| walk_at "subscriptTail Name BinOp ref int") => `(tactic| (k_here; (with_reducible show wpAny _ _ (subscriptTail _ _ (Value.ref _) (Value.int _ _)) _ _ _); refine' ba_itemK ?N ?U ?hk ?hf ?h0 ?h1 ?_ ; (case N => assumption); (case U => assumption); (case hk => assumption); (case hf => (rw [partF_length]; omega)); (case h0 => omega); (case h1 => (rw [partF_length]; omega)); intro tI kI lI uI))
set_option maxHeartbeats 8000000 in
theorem unfiltered_callN (w : World) (b c : Array UInt8) (row : List Int) (k st : Int) (t1 t2 t3 t4 : Tok) (news : List (Addr × Obj)) (hb : b.size ≤ 8) (hc : c.size = b.size) (hrow : KBw.bInts b = filtF k row (KBw.bInts c) st) (hin : ∀ x ∈ row, 0 ≤ x ∧ x < 256) (h0 : 1 ≤ st) (h1 : st ≤ 3) (hk : 0 ≤ k) (hk5 : k < 5) : ToldN w 78 3 32 [.int k t4, .bytes b t1, .bytes c t2, .int st t3] news (RBytes news row) := by
  w_top off
  dsimp only [ToldN, KF, VW, LO, PP]
  k_fill
  intros
  rename_i hret
  refine wpN_call ?_
  (first | k_dflt (refine' intoN ?k1 ?k2 ?k3 ?k4 ?k5 ?kA ?kF ?kK ?k6 ?k7 ?k8 ?k9 ?kB ?kD ?_ ?c2 ?c3 ?c4; (case kA => exact rfl); (case kF => exact rfl); (case kK => first | exact rfl | assumption); (case k1 => k_asm); (case k2 => k_asm); (case k3 => k_asm); (case k4 => k_asm); (case k5 => k_asm); (case k6 => k_is); (case k7 => k_is); (case k8 => ktr_room); (case k9 => first | exact BindsTo.of_eq rfl | exact binds_K (by k_in) rfl (by k_is) rfl rfl rfl); (case kB => exact rfl); (case kD => decide +kernel); (case c2 => exact rfl); (case c3 => exact rfl); (case c4 => exact rfl); k_whole; intro g' L' h' tk' cells' FG' F' N' Y' B' X' T' lN; (have Y0 : CellsAre _ [] cells' := Y'); cases Y0; clear Y'; (try simp only [List.cons_append, List.nil_append] at N'); (try dsimp only); (try k_lift B'); (try k_fold)) | fail "not entered")
  refine wpN_execs_cons (wpN_Assign_Name (CallN ?_))
  (k_steps; repeat (any_goals ((refine unheld ?_; first | ((with_reducible show wpAny _ _ (PySem.call (Value.ref 64) [Value.int _ _, Value.int _ _, Value.int _ _, Value.int _ _]) _ _ _); k_dflt (refine' guess_call _ _ _ _ _ _ _ _ _ _ ?zh0z ?zh1z _ _ _ _ _ _ _ _ _ _ _ _ _ _ _ _ _ _ _ _ ?zkBz ?zkFz ?zkXz ?zkNz ?zkTz ?zkkz ?zkdz ?zkuz ?_; (case zkBz => k_asm); (case zkFz => k_asm); (case zkXz => k_asm); (case zkNz => k_asm); (case zkTz => k_asm); (case zkkz => first | exact rfl | assumption); (case zkdz => ktr_room); (case zkuz => ktr_units); (case zh0z => first | assumption | omega); (case zh1z => first | assumption | omega)); intro t9 h9 tk9 F9 N9; (try dsimp only); (try k_fold); (try k_sweep))); (try k_steps))))
  refine callWithN_of (P := fun _ => True) rfl (fun h _ => ⟨_, .inr (.inl rfl), Looks.of_pure rfl⟩) (evalArgs_nil3 ⟨trivial, ?_⟩)
  refine ba_newK (by k_asm) (by k_asm) fun D h5 F5 N5 ap5 nL5 n05 lt5 => ?_
  (k_steps; repeat (any_goals ((refine unheld ?_; first | ((with_reducible show wpAny _ _ (PySem.call (Value.ref 64) [Value.int _ _, Value.int _ _, Value.int _ _, Value.int _ _]) _ _ _); k_dflt (refine' guess_call _ _ _ _ _ _ _ _ _ _ ?zh0z ?zh1z _ _ _ _ _ _ _ _ _ _ _ _ _ _ _ _ _ _ _ _ ?zkBz ?zkFz ?zkXz ?zkNz ?zkTz ?zkkz ?zkdz ?zkuz ?_; (case zkBz => k_asm); (case zkFz => k_asm); (case zkXz => k_asm); (case zkNz => k_asm); (case zkTz => k_asm); (case zkkz => first | exact rfl | assumption); (case zkdz => ktr_room); (case zkuz => ktr_units); (case zh0z => first | assumption | omega); (case zh1z => first | assumption | omega)); intro t9 h9 tk9 F9 N9; (try dsimp only); (try k_fold); (try k_sweep))); (try k_steps))))
  refine wpN_execs_cons (wpN_For ?_)
  (k_steps; repeat (any_goals ((refine unheld ?_; first | ((with_reducible show wpAny _ _ (PySem.call (Value.ref 64) [Value.int _ _, Value.int _ _, Value.int _ _, Value.int _ _]) _ _ _); k_dflt (refine' guess_call _ _ _ _ _ _ _ _ _ _ ?zh0z ?zh1z _ _ _ _ _ _ _ _ _ _ _ _ _ _ _ _ _ _ _ _ ?zkBz ?zkFz ?zkXz ?zkNz ?zkTz ?zkkz ?zkdz ?zkuz ?_; (case zkBz => k_asm); (case zkFz => k_asm); (case zkXz => k_asm); (case zkNz => k_asm); (case zkTz => k_asm); (case zkkz => first | exact rfl | assumption); (case zkdz => ktr_room); (case zkuz => ktr_units); (case zh0z => first | assumption | omega); (case zh1z => first | assumption | omega)); intro t9 h9 tk9 F9 N9; (try dsimp only); (try k_fold); (try k_sweep))); (try k_steps))))
  refine For_enumB rfl (fun p hp => Nat.ne_of_lt (ap5 p hp)) (by assumption) (by assumption) ["at", "octet", "left", "corner"] (partF (fun i => row.getD i 0)) rfl (fun i T o ti tc m₁ bb h₁ tk₁ own hi ho hT hoff hpart hU F₁ N₁ => ?_) (fun h₂ tk₂ m₂ bb F₂ N₂ hoff hpart => ?_)
  · clear hret
    obtain ⟨x1, x2, x3, x4, rfl⟩ := off4 hoff
    clear hoff
    have hbs : bb.size = i := by
      have := congrArg List.length hpart
      rwa [KBw.ints_length, partF_length] at this
    refine postN2 fun Q8 hQ8 => ?_
    (k_steps; repeat (any_goals ((refine unheld ?_; first | ((with_reducible show wpAny _ _ (PySem.call (Value.ref 64) [Value.int _ _, Value.int _ _, Value.int _ _, Value.int _ _]) _ _ _); k_dflt (refine' guess_call _ _ _ _ _ _ _ _ _ _ ?zh0z ?zh1z _ _ _ _ _ _ _ _ _ _ _ _ _ _ _ _ _ _ _ _ ?zkBz ?zkFz ?zkXz ?zkNz ?zkTz ?zkkz ?zkdz ?zkuz ?_; (case zkBz => k_asm); (case zkFz => k_asm); (case zkXz => k_asm); (case zkNz => k_asm); (case zkTz => k_asm); (case zkkz => first | exact rfl | assumption); (case zkdz => ktr_room); (case zkuz => ktr_units); (case zh0z => first | assumption | omega); (case zh1z => first | assumption | omega)); intro t9 h9 tk9 F9 N9; (try dsimp only); (try k_fold); (try k_sweep))); (try k_steps))))
    refine wpN_execs_A ?_
    (k_steps; repeat (any_goals ((refine unheld ?_; first | ((with_reducible show wpAny _ _ (PySem.call (Value.ref 64) [Value.int _ _, Value.int _ _, Value.int _ _, Value.int _ _]) _ _ _); k_dflt (refine' guess_call _ _ _ _ _ _ _ _ _ _ ?zh0z ?zh1z _ _ _ _ _ _ _ _ _ _ _ _ _ _ _ _ _ _ _ _ ?zkBz ?zkFz ?zkXz ?zkNz ?zkTz ?zkkz ?zkdz ?zkuz ?_; (case zkBz => k_asm); (case zkFz => k_asm); (case zkXz => k_asm); (case zkNz => k_asm); (case zkTz => k_asm); (case zkkz => first | exact rfl | assumption); (case zkdz => ktr_room); (case zkuz => ktr_units); (case zh0z => first | assumption | omega); (case zh1z => first | assumption | omega)); intro t9 h9 tk9 F9 N9; (try dsimp only); (try k_fold); (try k_sweep))); (try k_steps))))
    all_goals (try dsimp only)
    all_goals refine wpN_execs_A ?_
    all_goals (k_steps; repeat (any_goals ((refine unheld ?_; first | ((with_reducible show wpAny _ _ (PySem.call (Value.ref 64) [Value.int _ _, Value.int _ _, Value.int _ _, Value.int _ _]) _ _ _); k_dflt (refine' guess_call _ _ _ _ _ _ _ _ _ _ ?zh0z ?zh1z _ _ _ _ _ _ _ _ _ _ _ _ _ _ _ _ _ _ _ _ ?zkBz ?zkFz ?zkXz ?zkNz ?zkTz ?zkkz ?zkdz ?zkuz ?_; (case zkBz => k_asm); (case zkFz => k_asm); (case zkXz => k_asm); (case zkNz => k_asm); (case zkTz => k_asm); (case zkkz => first | exact rfl | assumption); (case zkdz => ktr_room); (case zkuz => ktr_units); (case zh0z => first | assumption | omega); (case zh1z => first | assumption | omega)); intro t9 h9 tk9 F9 N9; (try dsimp only); (try k_fold); (try k_sweep))); (try k_steps))))
    all_goals (try dsimp only)
    all_goals refine wpN_execs_cons (wpN_Expr (methodCallN ?_))
    all_goals (k_steps; repeat (any_goals ((refine unheld ?_; first | ((with_reducible show wpAny _ _ (PySem.call (Value.ref 64) [Value.int _ _, Value.int _ _, Value.int _ _, Value.int _ _]) _ _ _); k_dflt (refine' guess_call _ _ _ _ _ _ _ _ _ _ ?zh0z ?zh1z _ _ _ _ _ _ _ _ _ _ _ _ _ _ _ _ _ _ _ _ ?zkBz ?zkFz ?zkXz ?zkNz ?zkTz ?zkkz ?zkdz ?zkuz ?_; (case zkBz => k_asm); (case zkFz => k_asm); (case zkXz => k_asm); (case zkNz => k_asm); (case zkTz => k_asm); (case zkkz => first | exact rfl | assumption); (case zkdz => ktr_room); (case zkuz => ktr_units); (case zh0z => first | assumption | omega); (case zh1z => first | assumption | omega)); intro t9 h9 tk9 F9 N9; (try dsimp only); (try k_fold); (try k_sweep))); (try k_steps))))
    all_goals refine ba_getMethod ((by assumption : News _ _ _ _) _ (List.mem_append_right _ (.head _))).1 ?_
    all_goals (try dsimp only)
    all_goals refine callWithN_B (fun h => Looks.of_pure rfl) ?_
    all_goals (k_steps; repeat (any_goals ((refine unheld ?_; first | ((with_reducible show wpAny _ _ (PySem.call (Value.ref 64) [Value.int _ _, Value.int _ _, Value.int _ _, Value.int _ _]) _ _ _); k_dflt (refine' guess_call _ _ _ _ _ _ _ _ _ _ ?zh0z ?zh1z _ _ _ _ _ _ _ _ _ _ _ _ _ _ _ _ _ _ _ _ ?zkBz ?zkFz ?zkXz ?zkNz ?zkTz ?zkkz ?zkdz ?zkuz ?_; (case zkBz => k_asm); (case zkFz => k_asm); (case zkXz => k_asm); (case zkNz => k_asm); (case zkTz => k_asm); (case zkkz => first | exact rfl | assumption); (case zkdz => ktr_room); (case zkuz => ktr_units); (case zh0z => first | assumption | omega); (case zh1z => first | assumption | omega)); intro t9 h9 tk9 F9 N9; (try dsimp only); (try k_fold); (try k_sweep))); (try k_steps))))
    all_goals refine ba_appendK (by assumption) (by assumption) hU (bitAnd_in _).1 (bitAnd_in _).2 ?_ fun h7 F7 N7 => ?_
    all_goals first
      | (have := congrArg List.length hpart
         rw [KBw.ints_length, partF_length] at this
         rw [PySem.sizeLine_eq]; omega)
      | (refine .of (wpAny_execs_nil (hQ8 _ _ ⟨_, _, _, _, rfl, F7, N7, ?_, (ints_push _ (bitAnd_in _).1 (bitAnd_in _).2).trans ?_⟩))
         · intro y hy
           simp only [List.mem_cons, List.not_mem_nil, or_false, not_or] at hy
           simp only [hy.1, hy.2.1, hy.2.2.1, hy.2.2.2, if_false]
         · rw [partF_succ, hpart]
           first
             | (have hst : st ≤ (i : Int) := (by assumption)
                rw [unf_yes h0 hst hi ho hrow hin])
             | (have hst : ¬ st ≤ (i : Int) := (by assumption)
                rw [unf_no hst hi ho hrow hin]))
  · obtain ⟨x1, x2, x3, x4, rfl⟩ := off4 hoff
    clear hoff
    refine wpN_execs_A ?_
    (k_steps; repeat (any_goals ((refine unheld ?_; first | ((with_reducible show wpAny _ _ (PySem.call (Value.ref 64) [Value.int _ _, Value.int _ _, Value.int _ _, Value.int _ _]) _ _ _); k_dflt (refine' guess_call _ _ _ _ _ _ _ _ _ _ ?zh0z ?zh1z _ _ _ _ _ _ _ _ _ _ _ _ _ _ _ _ _ _ _ _ ?zkBz ?zkFz ?zkXz ?zkNz ?zkTz ?zkkz ?zkdz ?zkuz ?_; (case zkBz => k_asm); (case zkFz => k_asm); (case zkXz => k_asm); (case zkNz => k_asm); (case zkTz => k_asm); (case zkkz => first | exact rfl | assumption); (case zkdz => ktr_room); (case zkuz => ktr_units); (case zh0z => first | assumption | omega); (case zh1z => first | assumption | omega)); intro t9 h9 tk9 F9 N9; (try dsimp only); (try k_fold); (try k_sweep))); (try k_steps))))
    refine call_bytes_ba (N₂ _ (.head _)).1 ?_ fun t k => ?_
    · have := congrArg List.length hpart
      rw [KBw.ints_length] at this
      simp [partF] at this
      rw [PySem.sizeLine_eq]; omega
    (k_steps; repeat (any_goals ((refine unheld ?_; first | ((with_reducible show wpAny _ _ (PySem.call (Value.ref 64) [Value.int _ _, Value.int _ _, Value.int _ _, Value.int _ _]) _ _ _); k_dflt (refine' guess_call _ _ _ _ _ _ _ _ _ _ ?zh0z ?zh1z _ _ _ _ _ _ _ _ _ _ _ _ _ _ _ _ _ _ _ _ ?zkBz ?zkFz ?zkXz ?zkNz ?zkTz ?zkkz ?zkdz ?zkuz ?_; (case zkBz => k_asm); (case zkFz => k_asm); (case zkXz => k_asm); (case zkNz => k_asm); (case zkTz => k_asm); (case zkkz => first | exact rfl | assumption); (case zkdz => ktr_room); (case zkuz => ktr_units); (case zh0z => first | assumption | omega); (case zh1z => first | assumption | omega)); intro t9 h9 tk9 F9 N9; (try dsimp only); (try k_fold); (try k_sweep))); (try k_steps))))
    rename News _ _ _ _ => kN9
    rename Fr _ _ _ _ => kF9
    exact hret _ _ _ _ (hpart.trans (by rw [← KBw.ints_length, hrow, filtF_length]; exact partF_self row)) kF9 (cb_drop kN9 (fun p hp => List.mem_cons_of_mem _ hp))
end
end Mine
end
section
namespace Mine
section
variable {prog : Program} {w : World} {A : Around} {E : Value → Shared → Prop} {s : Shared} {env : Env} {h₀ : Heap} {x : Str} {xp : Pos} {body : List Stmt} {Q : Flow → Shared → Prop}
/-- for x in range(n): an invariant of the frame's map and of the ledger -/
theorem rangeJ {r : Addr} {b₀ : Int} {t₀ u₀ v₀ : Tok} {n : Nat} {m₀ : Str → Option Value} {news : List (Addr × Obj)}
    (hh : A.handled = none) (hr : IsRange s.heap r 0 b₀ 1 t₀ u₀ v₀) (hsmall : Builtin.Range.small 0 b₀ 1 = true) (hn : Builtin.Range.rangeSize 0 b₀ 1 = (n : Int)) (F : Fr h₀ env.locals s.heap m₀) (N : News h₀ env.locals s.heap news)
    (xs : List Str) (J : Nat → List (Addr × Obj) → Prop) (h0 : J 0 news)
    (step : ∀ i t m₁ news₁ h₁ tk₁ I oI, i < n → J i news₁ → (∀ y, y ∉ xs → m₁ y = m₀ y) → (∀ p ∈ news₁, p.1 ≠ I) → Fr h₀ env.locals h₁ m₁ → News h₀ env.locals h₁ ((I, oI) :: news₁) →
      wpAny (model prog w) A (assign (.Name x xp) env (.int (i : Int) t)) (fun _ s₃ => wpAny (model prog w) A (execs body env)
        (fun f s' => f = .next ∧ ∃ h' tk' m' news', s' = { s with heap := h', toks := tk' } ∧ Fr h₀ env.locals h' m' ∧ News h₀ env.locals h' ((I, oI) :: news') ∧ (∀ p ∈ news', p.1 ≠ I) ∧ (∀ y, y ∉ xs → m' y = m₀ y) ∧ J (i + 1) news') E s₃) E { s with heap := h₁, toks := tk₁ })
    (done : ∀ h' tk m' news', Fr h₀ env.locals h' m' → News h₀ env.locals h' news' → (∀ y, y ∉ xs → m' y = m₀ y) → J n news' → Q .next { s with heap := h', toks := tk }) :
    wpAny (model prog w) A (pyIter (.ref r)) (fun it s₂ => TurnsAt prog w A h₀ env (.Name x xp) body Q E it s₂) E s := by
  refine wpAny_pyIter_range hr hsmall ?_
  have W : Walks prog w A s.heap.objs.size [s.heap.objs.size] [s.heap.objs.size] n (fun i v => ∃ t, v = .int (0 + i * 1) t)
      (fun i h => IsRangeIter h s.heap.objs.size (0 + (i : Nat) * 1) ((n : Int) - (i : Nat)) 1) := Walks.range hh _ 0 1 n
  refine ⟨_, _, _, _, _, _, _, m₀, news, fun i m₁ l => (∀ y, y ∉ xs → m₁ y = m₀ y) ∧ J i l, rfl, KTurns.ofWalks W fun i v s Q E st q => by unfold letOwnedTupleGo; exact wpAny_pure q, ?_, ?_, ?_, ?_, F.push _, fun p hp => ⟨Heap.get?_push_of_some _ (N p hp).1, (N p hp).2⟩, ⟨fun _ _ => rfl, h0⟩, ?_, ?_⟩
  · exact fun hm => Nat.lt_irrefl _ (List.mem_singleton.mp hm ▸ F.ns.lt)
  · exact fun b hb => List.mem_singleton.mp hb ▸ next_is_new F
  · exact fun p hp hI => Nat.lt_irrefl _ (List.mem_singleton.mp hI ▸ Heap.lt_size (N p hp).1)
  · show IsRangeIter _ _ _ _ _
    rw [hn]
    simpa using Heap.get?_push_size _ rfl
  · rintro i v m₁ news₁ h₁ tk₁ own hlt ⟨t, rfl⟩ hJ hoff hown hget hall hst F₁ N₁
    obtain ⟨oI, hoI⟩ : ∃ oI, h₁.get? s.heap.objs.size = some oI := ⟨_, hst⟩
    have hne : ∀ p ∈ news₁, p.1 ≠ s.heap.objs.size := fun p hp e => hoff p hp (List.mem_singleton.mpr e)
    have N2 : News h₀ env.locals h₁ ((s.heap.objs.size, oI) :: news₁) := fun p hp => by
      rcases List.mem_cons.mp hp with rfl | hp
      · exact N₁ _ (List.mem_append_left _ (hall _ (List.mem_singleton.mpr rfl) (next_is_new F) _ hoI))
      · exact N₁ _ (List.mem_append_right _ hp)
    have e0 : (0 + (i : Int) * 1) = (i : Int) := by omega
    rw [e0]
    refine wpAny_mono (step i t m₁ news₁ h₁ tk₁ s.heap.objs.size oI hlt hJ.2 hJ.1 hne F₁ N2) (fun _ s₃ h3 => wpAny_mono h3 (fun f s' h4 => ?_) fun _ _ x => x) fun _ _ x => x
    obtain ⟨rfl, h', tk', m', news', rfl, F', N', ne', off', j'⟩ := h4
    refine ⟨rfl, h', tk', m', news', rfl, F', fun p hp => ?_, fun p hp e => ne' p hp (List.mem_singleton.mp e), off', j'⟩
    rcases List.mem_append.mp hp with hp | hp
    · have e1 : p.1 = s.heap.objs.size := List.mem_singleton.mp (hown p hp)
      have e2 := hget p hp
      rw [e1, hoI] at e2
      have e3 : p = (s.heap.objs.size, oI) := Prod.ext e1 (Option.some.inj e2).symm
      rw [e3]
      exact N' _ (.head _)
    · exact N' _ (.tail _ hp)
  · intro h' tk m' news' F' N' _ j'
    exact done h' tk m' news' F' N' j'.1 j'.2
/-- the same, where one list grows -/
theorem rangeJL {r l0 : Addr} {b₀ : Int} {t₀ u₀ v₀ : Tok} {n n₀ : Nat} {vs₀ : List Value} {m₀ : Str → Option Value} {rest : List (Addr × Obj)}
    (hh : A.handled = none) (hr : IsRange s.heap r 0 b₀ 1 t₀ u₀ v₀) (hsmall : Builtin.Range.small 0 b₀ 1 = true) (hn : Builtin.Range.rangeSize 0 b₀ 1 = (n : Int)) (F : Fr h₀ env.locals s.heap m₀) (N : News h₀ env.locals s.heap ((l0, PySem.W.listOf vs₀.toArray n₀) :: rest))
    (xs : List Str) (P : Nat → List Value → Prop) (h0 : P 0 vs₀)
    (step : ∀ i t m₁ vs nn h₁ tk₁ I oI, i < n → P i vs → (∀ y, y ∉ xs → m₁ y = m₀ y) → (∀ p ∈ (l0, PySem.W.listOf vs.toArray nn) :: rest, p.1 ≠ I) → Fr h₀ env.locals h₁ m₁ → News h₀ env.locals h₁ ((I, oI) :: (l0, PySem.W.listOf vs.toArray nn) :: rest) →
      wpAny (model prog w) A (assign (.Name x xp) env (.int (i : Int) t)) (fun _ s₃ => wpAny (model prog w) A (execs body env)
        (fun f s' => f = .next ∧ ∃ h' tk' m' vs' nn', s' = { s with heap := h', toks := tk' } ∧ Fr h₀ env.locals h' m' ∧ News h₀ env.locals h' ((I, oI) :: (l0, PySem.W.listOf vs'.toArray nn') :: rest) ∧ (∀ y, y ∉ xs → m' y = m₀ y) ∧ P (i + 1) vs') E s₃) E { s with heap := h₁, toks := tk₁ })
    (done : ∀ h' tk m' vs nn, Fr h₀ env.locals h' m' → News h₀ env.locals h' ((l0, PySem.W.listOf vs.toArray nn) :: rest) → (∀ y, y ∉ xs → m' y = m₀ y) → P n vs → Q .next { s with heap := h', toks := tk }) :
    wpAny (model prog w) A (pyIter (.ref r)) (fun it s₂ => TurnsAt prog w A h₀ env (.Name x xp) body Q E it s₂) E s := by
  refine rangeJ hh hr hsmall hn F N xs (fun i l => ∃ vs nn, l = (l0, PySem.W.listOf vs.toArray nn) :: rest ∧ P i vs) ⟨vs₀, n₀, rfl, h0⟩ ?_ ?_
  · rintro i t m₁ _ h₁ tk₁ I oI hi ⟨vs, nn, rfl, hp⟩ hoff hne F₁ N₁
    refine wpAny_mono (step i t m₁ vs nn h₁ tk₁ I oI hi hp hoff hne F₁ N₁) (fun _ s₃ h3 => wpAny_mono h3 (fun f s' h4 => ?_) fun _ _ x => x) fun _ _ x => x
    obtain ⟨e, h', tk', m', vs', nn', e2, F', N', off', j'⟩ := h4
    refine ⟨e, h', tk', m', _, e2, F', N', fun p hp => ?_, off', vs', nn', rfl, j'⟩
    rcases List.mem_cons.mp hp with rfl | hp
    · exact hne (l0, PySem.W.listOf vs.toArray nn) (.head _)
    · exact hne _ (.tail _ hp)
  · rintro h' tk m' _ F' N' off' ⟨vs, nn, rfl, j'⟩
    exact done h' tk m' vs nn F' N' off' j'
theorem allLt_all {d : Nat} : ∀ {l : List (Addr × Obj)}, AllLt d l → ∀ p ∈ l, p.1 < d
  | [], _, _, h => nomatch h
  | q :: r, h, p, hp => by
    rcases List.mem_cons.mp hp with rfl | hp
    · exact h.1
    · exact allLt_all h.2 p hp
theorem off1 {m₁ m₀ : Str → Option Value} {x1 : Str} (h : ∀ y, y ∉ [x1] → m₁ y = m₀ y) : ∃ a, m₁ = fun y => if y = x1 then a else m₀ y := by
  refine ⟨m₁ x1, funext fun y => ?_⟩
  by_cases e1 : y = x1
  · subst e1; simp
  simp only [e1, if_false]
  exact h y (by simp [e1])
theorem off2 {m₁ m₀ : Str → Option Value} {x1 x2 : Str} (h : ∀ y, y ∉ [x1, x2] → m₁ y = m₀ y) :
    ∃ a b, m₁ = fun y => if y = x1 then a else if y = x2 then b else m₀ y := by
  refine ⟨m₁ x1, m₁ x2, funext fun y => ?_⟩
  by_cases e1 : y = x1
  · subst e1; simp
  by_cases e2 : y = x2
  · subst e2; simp [e1]
  simp only [e1, e2, if_false]
  exact h y (by simp [e1, e2])
theorem off3 {m₁ m₀ : Str → Option Value} {x1 x2 x3 : Str} (h : ∀ y, y ∉ [x1, x2, x3] → m₁ y = m₀ y) :
    ∃ a b c, m₁ = fun y => if y = x1 then a else if y = x2 then b else if y = x3 then c else m₀ y := by
  refine ⟨m₁ x1, m₁ x2, m₁ x3, funext fun y => ?_⟩
  by_cases e1 : y = x1
  · subst e1; simp
  by_cases e2 : y = x2
  · subst e2; simp [e1]
  by_cases e3 : y = x3
  · subst e3; simp [e1, e2]
  simp only [e1, e2, e3, if_false]
  exact h y (by simp [e1, e2, e3])
theorem range_small {n : Nat} (h : n ≤ 1000) : Builtin.Range.small 0 (n : Int) 1 = true := small_one (by omega) (by omega) (by omega) (by omega)
theorem range_size (n : Nat) : Builtin.Range.rangeSize 0 (n : Int) 1 = (n : Int) := by
  unfold Builtin.Range.rangeSize
  rw [if_pos (by decide)]
  split <;> omega
end
end Mine
end
section
local macro_rules | `(tactic| walk_at "no key of the walk") => `(tactic| fail "no line")
local macro_rules | `(tactic| walk_at "no key of the walk") => `(tactic| fail "no line")
local macro_rules | `(tactic| walk_at "no key of the walk") => `(tactic| fail "no line")
local macro_rules | `(tactic| walk_at "no key of the walk") => `(tactic| fail "no line")
local macro_rules | `(tactic| walk_at "no key of the walk") => `(tactic| fail "no line")
local macro_rules | `(tactic| walk_at "no key of the walk") => `(tactic| fail "no line")
namespace Mine
section
local macro_rules | `(tactic| walk_at "call ref") => `(tactic| (k_here; first | with_reducible refine heldAt 123 ?_))
local macro_rules | `(tactic| walk_at "eval Call Name") => `(tactic| (k_here; (fail_if_success (with_reducible show wpAny _ _ (eval (Expr.Call (Expr.Name "range" _) _ _ _) _) _ _ _)); with_reducible refine Call_ ?_))
local macro_rules | `(tactic| k_all) => `(tactic| first | assumption | (refine ne_next (by assumption) ?_; omega))

local macro_rules | `(tactic| walk_at "call type:bytes") => `(tactic| (k_here; (with_reducible show wpAny _ _ (PySem.call (Value.type "bytes") [Value.int _ _]) _ _ _); refine call_bytes_int (by omega) (by rw [PySem.sizeLine_eq]; omega) (by omega) fun tb kb => ?_))
local macro_rules | `(tactic| walk_at "binaryOp Add bytes bytes") => `(tactic| (k_here; (with_reducible show wpAny _ _ (binaryOp Operator.Add (Value.bytes _ _) (Value.bytes _ _)) _ _ _); refine KBa.add_K (ints_zeros _) (by assumption) (by simp only [List.length_replicate]; omega) ?_; intro _ _ kbaApp))
local macro_rules | `(tactic| walk_at "subscriptTail Name BinOp bytes int") => `(tactic| (k_here; (with_reducible show wpAny _ _ (subscriptTail _ _ (Value.bytes _ _) (Value.int _ _)) _ _ _); refine' KBw.item_K ?hk ?hf ?h0 ?h1 ?_; (case hk => assumption); (case hf => (simp only [List.length_append, List.length_replicate]; omega)); (case h0 => omega); (case h1 => (simp only [List.length_append, List.length_replicate]; omega)); intro tI kI lI uI))
local macro_rules | `(tactic| walk_at "subscriptTail Name Name bytes int") => `(tactic| (k_here; (with_reducible show wpAny _ _ (subscriptTail _ _ (Value.bytes _ _) (Value.int _ _)) _ _ _); refine' KBw.item_K ?hk ?hf ?h0 ?h1 ?_; (case hk => assumption); (case hf => (simp only [List.length_append, List.length_replicate]; omega)); (case h0 => omega); (case h1 => (simp only [List.length_append, List.length_replicate]; omega)); intro tI kI lI uI))
local macro_rules | `(tactic| walk_at "exec For Name Call cons nil") => `(tactic| (k_here; (with_unfolding_all refine' For_turns (by assumption) ?_); k_whole))
set_option maxHeartbeats 8000000 in
theorem due_call (w : World) (b c : Array UInt8) (row ahead : List Int) (k st : Int) (t1 t2 t3 t4 : Tok) (news : List (Addr × Obj)) (hbI : KBw.bInts b = row) (hcI : KBw.bInts c = ahead) (hb : row.length ≤ 8) (hc : ahead.length = row.length) (h0 : 1 ≤ st) (h1 : st ≤ 3) (hk : 0 ≤ k) (hk5 : k < 5) : Told w 137 3 32 [.int k t4, .bytes b t1, .bytes c t2, .int st t3] news (RBytes news (filtF k row ahead st)) := by
  w_top off
  dsimp only [Told, KF, VW, LO, PP]
  k_fill
  intros
  rename_i hret
  refine wpAny_call ?_
  (first | k_dflt cell_enter | fail "not entered")
  (k_steps; repeat (any_goals ((refine unheld ?_; first | ((with_reducible show wpAny _ _ (PySem.call (Value.ref 123) [Value.int _ _, Value.int _ _, Value.int _ _, Value.int _ _]) _ _ _); k_dflt (refine' lguess_call _ _ _ _ _ _ _ _ _ _ ?zh0z ?zh1z _ _ _ _ _ _ _ _ _ _ _ _ _ _ _ _ _ _ _ _ ?zkBz ?zkFz ?zkXz ?zkNz ?zkTz ?zkkz ?zkdz ?zkuz ?_; (case zkBz => k_asm); (case zkFz => k_asm); (case zkXz => k_asm); (case zkNz => k_asm); (case zkTz => k_asm); (case zkkz => first | exact rfl | assumption); (case zkdz => ktr_room); (case zkuz => ktr_units); (case zh0z => first | assumption | omega); (case zh1z => first | assumption | omega)); intro t9 h9 tk9 F9 N9; (try dsimp only); (try k_fold); (try k_sweep))); (try k_steps))))
  refine rangeJL (n := row.length) rfl (by assumption) (range_small (by omega)) (range_size _) (by assumption) (by assumption) ["at", "told"]
    (fun i vs => IntsAre vs (partF (filtAt k row ahead st) i)) ?_ (fun i t m₁ vs nn h₁ tk₁ I oI hi hvs hoff hne F₁ N₁ => ?_) (fun h₂ tk₂ m₂ vs nn F₂ N₂ hoff hvs => ?_)
  · exact IntsAre.nil
  · clear hret
    obtain ⟨x1, x2, rfl⟩ := off2 hoff
    clear hoff
    refine postA2 fun Q8 hQ8 => ?_
    (k_steps; repeat (any_goals ((refine unheld ?_; first | ((with_reducible show wpAny _ _ (PySem.call (Value.ref 123) [Value.int _ _, Value.int _ _, Value.int _ _, Value.int _ _]) _ _ _); k_dflt (refine' lguess_call _ _ _ _ _ _ _ _ _ _ ?zh0z ?zh1z _ _ _ _ _ _ _ _ _ _ _ _ _ _ _ _ _ _ _ _ ?zkBz ?zkFz ?zkXz ?zkNz ?zkTz ?zkkz ?zkdz ?zkuz ?_; (case zkBz => k_asm); (case zkFz => k_asm); (case zkXz => k_asm); (case zkNz => k_asm); (case zkTz => k_asm); (case zkkz => first | exact rfl | assumption); (case zkdz => ktr_room); (case zkuz => ktr_units); (case zh0z => first | assumption | omega); (case zh1z => first | assumption | omega)); intro t9 h9 tk9 F9 N9; (try dsimp only); (try k_fold); (try k_sweep))); (try k_steps))))
    refine append_K (by assumption) (by assumption) (.tail (fun e => hne _ (.head _) e.symm) (.head ?_)) (fun h7 F7 N7 => ?_) ?_
    · simp only [List.mem_cons, forall_eq_or_imp]
      rename _ ∧ AllLt _ _ => l1
      exact ⟨Nat.ne_of_lt l1.1, fun p hp => Nat.ne_of_lt (allLt_all l1.2 p hp)⟩
    · refine wpAny_execs_nil (hQ8 _ _ ?_)
      rw [List.push_toArray] at N7
      refine ⟨rfl, _, _, _, _, _, rfl, F7, N7, ?_, ?_⟩
      · intro y hy
        simp only [List.mem_cons, List.not_mem_nil, or_false, not_or] at hy
        simp only [hy.1, hy.2, if_false]
      · rw [partF_succ]
        refine hvs.append ?_
        have e := due_at (k := k) (row := row) (ahead := ahead) (st := st) (i := i) hc hi h0
        rw [← e]
        exact IntsAre.cons _ _ IntsAre.nil
    · have := hvs.length
      rw [partF_length] at this
      rw [List.size_toArray, PySem.sizeLine_eq]; omega
  · obtain ⟨x1, x2, rfl⟩ := off2 hoff
    clear hoff
    (k_steps; repeat (any_goals ((refine unheld ?_; first | ((with_reducible show wpAny _ _ (PySem.call (Value.ref 123) [Value.int _ _, Value.int _ _, Value.int _ _, Value.int _ _]) _ _ _); k_dflt (refine' lguess_call _ _ _ _ _ _ _ _ _ _ ?zh0z ?zh1z _ _ _ _ _ _ _ _ _ _ _ _ _ _ _ _ _ _ _ _ ?zkBz ?zkFz ?zkXz ?zkNz ?zkTz ?zkkz ?zkdz ?zkuz ?_; (case zkBz => k_asm); (case zkFz => k_asm); (case zkXz => k_asm); (case zkNz => k_asm); (case zkTz => k_asm); (case zkkz => first | exact rfl | assumption); (case zkdz => ktr_room); (case zkuz => ktr_units); (case zh0z => first | assumption | omega); (case zh1z => first | assumption | omega)); intro t9 h9 tk9 F9 N9; (try dsimp only); (try k_fold); (try k_sweep))); (try k_steps))))
    refine' KBa.make_K ?gF ?gN ?gh ?gl ?gi ?gr ?gn ?_
    case gF => exact F₂
    case gN => exact N₂
    case gh => exact rfl
    case gl => exact News.isList N₂ (.head _)
    case gi => exact hvs
    case gr => exact partF_in _ fun i => filtAt_in ..
    case gn => rw [partF_length]; omega
    intros
    (k_steps; repeat (any_goals ((refine unheld ?_; first | ((with_reducible show wpAny _ _ (PySem.call (Value.ref 123) [Value.int _ _, Value.int _ _, Value.int _ _, Value.int _ _]) _ _ _); k_dflt (refine' lguess_call _ _ _ _ _ _ _ _ _ _ ?zh0z ?zh1z _ _ _ _ _ _ _ _ _ _ _ _ _ _ _ _ _ _ _ _ ?zkBz ?zkFz ?zkXz ?zkNz ?zkTz ?zkkz ?zkdz ?zkuz ?_; (case zkBz => k_asm); (case zkFz => k_asm); (case zkXz => k_asm); (case zkNz => k_asm); (case zkTz => k_asm); (case zkkz => first | exact rfl | assumption); (case zkdz => ktr_room); (case zkuz => ktr_units); (case zh0z => first | assumption | omega); (case zh1z => first | assumption | omega)); intro t9 h9 tk9 F9 N9; (try dsimp only); (try k_fold); (try k_sweep))); (try k_steps))))
    rename News _ _ _ _ => kN9
    rename Fr _ _ _ _ => kF9
    exact hret _ _ _ _ (KBa.ints_make (by assumption)) kF9 (cb_drop kN9 (fun p hp => List.mem_cons_of_mem _ (List.mem_cons_of_mem _ hp)))
end
end Mine
end
section
namespace Mine
section
local macro_rules | `(tactic| k_all) => `(tactic| first | assumption | (refine ne_next (by assumption) ?_; omega))

/-- the pool is made: two ints -/
abbrev RPool (news : List (Addr × Obj)) (h₀ : Heap) (L : Addr) (m : Str → Option Value) (s : Shared) (Q _E : Value → Shared → Prop) : Prop :=
  ∀ (D : Addr) (a b : Int) (ta tb : Tok) (h' : Heap) (tk' : Nat), 0 ≤ a → 0 ≤ b → b < 2147483647 → Fr h₀ L h' m → News h₀ L h' ((D, poolObj a b ta tb 0) :: news) → (∀ p ∈ news, p.1 < D) → Q (.ref D) { s with heap := h', toks := tk' }
set_option maxHeartbeats 8000000 in
theorem pool_call (w : World) (l : Addr) (vs : List Value) (ns : List Int) (t1 : Tok) (news : List (Addr × Obj)) (hn : ns.length ≤ 63) (hi : IntsAre vs ns) :
    Told w 97 1 16 [.ref l, .int 0 t1] news (fun h₀ L m s Q E => h₀.IsList l vs.toArray ∧ RPool news h₀ L m s Q E) := by
  w_top off
  dsimp only [Told, KF, VW, LO, PP]
  k_fill
  intros
  rename_i hret
  obtain ⟨hl, hret⟩ := hret
  refine wpAny_call ?_
  (first | k_dflt cell_enter | fail "not entered")
  have hl2 := hl.at fun o e => (by assumption : Fr _ _ _ _).keep _ o e
  k_steps
  all_goals refine hret _ _ _ _ _ _ _ ?_ (fmod_in _ (by decide)).1 (fmod_in _ (by decide)).2 (by assumption) (by assumption) (by assumption)
  all_goals clear hret
  all_goals refine Int.mul_nonneg ?_ ?_
  all_goals (repeat' split) <;> first | exact Int.le_refl _ | exact Int.zero_le_one | omega
end
end Mine
end
section
namespace Mine
open PySem.SeqAt
section
variable {prog : Program} {w : World} {A : Around} {M : Model} {E : Value → Shared → Prop} {s : Shared} {env : Env}
theorem Tuple2N {e1 e2 : Expr} {k : Nat} {pos : Pos} {Q : Value → Shared → Prop}
    (h : wpAny M A (eval e1 env) (fun v1 s1 => wpN M A (eval e2 env) (fun v2 s2 => wpAny M A (newTuple [v1, v2]) Q E s2) E s1) E s)
    (he : starEach [e1, e2] env = [(false, eval e1 env), (false, eval e2 env)] := by rfl) : wpN M A (eval (.Tuple [e1, e2] k pos) env) Q E s := by
  show wpN M A (do standAt pos; newTuple (← spliced (backTo pos (starEach [e1, e2] env)))) Q E s
  rw [he]
  refine wpA_bind (wpAny_standAt (wpN_bindA ?_))
  show wpN M A (do let v ← eval e1 env; let here ← (pure [v] : Sem (List Value)); return here ++ (← holding here (do let v2 ← eval e2 env; let here2 ← (pure [v2] : Sem (List Value)); return here2 ++ (← holding here2 (pure []))))) _ E s
  refine wpA_bind (wpAny_mono h (fun v1 s1 h1 => wpA_bind (wpAny_pure (wpN_bind (wpN_holding (wpN_bind (wpN_mono h1 (fun v2 s2 h2 => ?_) fun _ _ x => x)))))) fun _ _ x => x)
  refine wpA_bind (wpAny_pure (wpA_bind (wpAny_holding (wpAny_pure ?_))))
  exact wpN_pure (wpN_pure h2)
end
/-- what the octets of a row weigh -/
def wSum (ks : List Int) : Int := (ks.map (fun k => if k < 128 then k else 256 - k)).sum
theorem weightF_eq {b : Array UInt8} {ks : List Int} (h : KBw.bInts b = ks) : weightF b = wSum ks := by subst h; rfl
/-- the first kind up to i whose row weighs least -/
def bestK (row ahead : List Int) (st : Int) : Nat → Int
  | 0 => 0
  | i + 1 => if wSum (filtF ((i : Int) + 1) row ahead st) < wSum (filtF (bestK row ahead st i) row ahead st) then (i : Int) + 1 else bestK row ahead st i
theorem bestK_in (row ahead : List Int) (st : Int) (i : Nat) : 0 ≤ bestK row ahead st i ∧ bestK row ahead st i ≤ i := by
  induction i with
  | zero => exact ⟨Int.le_refl _, Int.le_refl _⟩
  | succ i ih =>
    unfold bestK
    split <;> omega
theorem bestK_min (row ahead : List Int) (st : Int) : ∀ n : Nat, (∀ k : Nat, k ≤ n → wSum (filtF (bestK row ahead st n) row ahead st) ≤ wSum (filtF (k : Int) row ahead st)) ∧
    ∀ k : Nat, (k : Int) < bestK row ahead st n → wSum (filtF (bestK row ahead st n) row ahead st) < wSum (filtF (k : Int) row ahead st)
  | 0 => by
    refine ⟨fun k hk => ?_, fun k hk => ?_⟩
    · obtain rfl : k = 0 := by omega
      exact Int.le_refl _
    · have : (k : Int) < 0 := hk
      omega
  | n + 1 => by
    obtain ⟨ih1, ih2⟩ := bestK_min row ahead st n
    have hb := bestK_in row ahead st n
    by_cases h : wSum (filtF ((n : Int) + 1) row ahead st) < wSum (filtF (bestK row ahead st n) row ahead st)
    · have e : bestK row ahead st (n + 1) = (n : Int) + 1 := by
        show (if _ then _ else _) = _
        rw [if_pos h]
      rw [e]
      have hlt : ∀ k : Nat, k ≤ n → wSum (filtF ((n : Int) + 1) row ahead st) < wSum (filtF (k : Int) row ahead st) := fun k hk => by have := ih1 k hk; omega
      refine ⟨fun k hk => ?_, fun k hk => hlt k (by omega)⟩
      by_cases e2 : k = n + 1
      · subst e2; exact Int.le_refl _
      · exact Int.le_of_lt (hlt k (by omega))
    · have e : bestK row ahead st (n + 1) = bestK row ahead st n := by
        show (if _ then _ else _) = _
        rw [if_neg h]
      rw [e]
      refine ⟨fun k hk => ?_, ih2⟩
      by_cases e2 : k = n + 1
      · subst e2
        have e3 : ((n + 1 : Nat) : Int) = (n : Int) + 1 := by omega
        rw [e3]; omega
      · exact ih1 k (by omega)
theorem bestK_idx {row ahead : List Int} {st : Int} {wl : List Int} {M : Int} (hwl : wl = (List.range 5).map (fun i => wSum (filtF ((i : Nat) : Int) row ahead st))) (hm : M ∈ wl) (hl : ∀ a, a ∈ wl → M ≤ a) :
    ((wl.idxOf M : Nat) : Int) = bestK row ahead st 4 := by
  have hlen : wl.length = 5 := by rw [hwl]; rfl
  have hp : wl.idxOf M < wl.length := List.idxOf_lt_length_iff.mpr hm
  have hat : ∀ k (h : k < wl.length), wl[k] = wSum (filtF (k : Int) row ahead st) := fun k h => by
    subst hwl; simp
  have hMp : wSum (filtF ((wl.idxOf M : Nat) : Int) row ahead st) = M := by rw [← hat _ hp]; exact List.getElem_idxOf hp
  obtain ⟨j, hj⟩ : ∃ j : Nat, (j : Int) = bestK row ahead st 4 := ⟨(bestK row ahead st 4).toNat, by have := (bestK_in row ahead st 4).1; omega⟩
  have hj4 : j ≤ 4 := by have := (bestK_in row ahead st 4).2; omega
  obtain ⟨b1, b2⟩ := bestK_min row ahead st 4
  rw [← hj] at b1 b2 ⊢
  have hjM : wSum (filtF (j : Int) row ahead st) = M := by
    have h1 := b1 (wl.idxOf M) (by omega)
    have h2 := hl wl[j] (List.getElem_mem (by omega))
    rw [hat j (by omega)] at h2
    omega
  have h3 : ¬ wl.idxOf M < j := fun h => by have := b2 (wl.idxOf M) (by omega); omega
  have h4 : ¬ j < wl.idxOf M := fun h => by
    have := ne_of_lt_idxOf h (by omega)
    rw [hat j (by omega), hjM] at this
    simp at this
  omega
abbrev tupObj (j : Int) (b : Array UInt8) (tj tb : Tok) : Obj := { cls := .type "tuple", data := .seq #[.int j tj, .bytes b tb] }
abbrev RBest (news : List (Addr × Obj)) (j : Int) (ks : List Int) (h₀ : Heap) (L : Addr) (m : Str → Option Value) (s : Shared) (Q _E : Value → Shared → Prop) : Prop :=
  ∀ (T : Addr) (b : Array UInt8) (tj tb : Tok) (h' : Heap) (tk' : Nat), KBw.bInts b = ks → Fr h₀ L h' m → News h₀ L h' ((T, tupObj j b tj tb) :: news) → Q (.ref T) { s with heap := h', toks := tk' }
end Mine
end
section
namespace Mine
section
variable {prog : Program} {w : World} {A : Around} {E : Value → Shared → Prop} {s : Shared} {env : Env} {h₀ : Heap} {x : Str} {xp : Pos} {body : List Stmt} {R : Result → Shared → Prop}
abbrev StepN (prog : Program) (w : World) (A : Around) (h₀ : Heap) (env : Env) (s : Shared) (R : Result → Shared → Prop) (body : List Stmt) (I : Addr) (oI : Obj) (xs : List Str) (m₀ : Str → Option Value) (Jn : (Str → Option Value) → List (Addr × Obj) → Prop) (s₂ : Shared) : Prop :=
  wpN (model prog w) A (execs body env) (fun fl s₃ => match fl with
    | .next => ∃ h' tk m' news', s₃ = { s with heap := h', toks := tk } ∧ Fr h₀ env.locals h' m' ∧ News h₀ env.locals h' ((I, oI) :: news') ∧ (∀ p ∈ news', p.1 ≠ I) ∧ (∀ y, y ∉ xs → m' y = m₀ y) ∧ Jn m' news'
    | _ => False) (fun _ _ => False) s₂
/-- a loop whose iterator alone is written -/
theorem loopNI {target : Expr} {I : Addr} {fp : List Addr} {n : Nat} {P Md : Nat → Value → Heap → Prop} {St : Nat → Heap → Prop} {m₀ : Str → Option Value} {news : List (Addr × Obj)} (W : KTurns prog w A target I fp [I] n P Md St)
    (hLf : env.locals ∉ fp) (hI : h₀.get? I = none) (hnw : ∀ p ∈ news, p.1 ≠ I) (hst : St 0 s.heap) (hSt : ∀ i h, St i h → ∃ o, h.get? I = some o) (F : Fr h₀ env.locals s.heap m₀) (N : News h₀ env.locals s.heap news)
    (xs : List Str) (J : Nat → (Str → Option Value) → List (Addr × Obj) → Prop) (h0 : J 0 m₀ news) (hfp : ∀ b ∈ fp, b ≠ I → ∃ o, ∀ i m l, J i m l → (b, o) ∈ l)
    (step : ∀ i v m₁ news₁ h₁ tk₁ oI, i < n → P i v h₁ → J i m₁ news₁ → (∀ y, y ∉ xs → m₁ y = m₀ y) → (∀ p ∈ news₁, p.1 ≠ I) → Fr h₀ env.locals h₁ m₁ → News h₀ env.locals h₁ ((I, oI) :: news₁) →
      wpAny (model prog w) A (assign target env v) (fun _ s₂ => StepN prog w A h₀ env s R body I oI xs m₀ (J (i + 1)) s₂) (fun _ _ => False) { s with heap := h₁, toks := tk₁ })
    (hR : ∀ h' tk m' news', Fr h₀ env.locals h' m' → News h₀ env.locals h' news' → (∀ y, y ∉ xs → m' y = m₀ y) → J n m' news' → R (.ok .next) { s with heap := h', toks := tk }) :
    codeN (model prog w) A (.forLoop target (.ref I) body [] env) R s := by
  refine loopN (s := s) W hLf (fun b hb => by rw [List.mem_singleton.mp hb]; exact hI) (fun i m₁ l => (∀ y, y ∉ xs → m₁ y = m₀ y) ∧ J i m₁ l) ?_ (fun h' tk m' news' F' N' j => hR h' tk m' news' F' N' j.1 j.2)
    n 0 s.heap s.toks m₀ news (Nat.zero_add n) hst F N (fun p hp hq => hnw p hp (List.mem_singleton.mp hq)) ⟨fun _ _ => rfl, h0⟩
  rintro i v m₁ news₁ h₁ tk₁ own hlt hP hst₁ hown hall F₁ N₁ hw ⟨hoff, hJ⟩
  obtain ⟨oI, hoI⟩ := hSt _ _ hst₁
  have hin : (I, oI) ∈ own := hall I (List.mem_singleton.mpr rfl) oI hoI
  have N2 : News h₀ env.locals h₁ ((I, oI) :: news₁) := fun p hp => by
    rcases List.mem_cons.mp hp with rfl | hp
    · exact N₁ _ (List.mem_append_left _ hin)
    · exact N₁ _ (List.mem_append_right _ hp)
  refine wpAny_mono (step i v m₁ news₁ h₁ tk₁ oI hlt hP hJ hoff (fun p hp e => hw p hp (List.mem_singleton.mpr e)) F₁ N2) (fun _ s₂ h2 => wpN_mono h2 (fun fl s₃ h3 => ?_) fun _ _ x => x) fun _ _ x => x
  match fl, h3 with
  | .next, h3 =>
    obtain ⟨h', tk, m', news', rfl, F', N', ne', off', j'⟩ := h3
    -- an object of the iterator's is I itself, or stands in the ledger behind the turn too
    have same : ∀ p ∈ own, News h₀ env.locals h' [p] := fun p hp q hq => by
      obtain rfl := List.mem_singleton.mp hq
      have was := (N₁ _ (List.mem_append_left _ hp)).1
      by_cases e : q.1 = I
      · rw [e, hoI] at was
        rw [show q = (I, oI) from Prod.ext e (Option.some.inj was).symm]
        exact N' _ (.head _)
      · obtain ⟨o, ho⟩ := hfp _ (hown q hp) e
        have there := (N₁ _ (List.mem_append_right _ (ho i _ _ hJ))).1
        rw [was] at there
        rw [show q = (q.1, o) from Prod.ext rfl (Option.some.inj there)]
        exact N' _ (.tail _ (ho (i + 1) _ _ j'))
    refine ⟨rfl, h', tk, m', news', rfl, F', fun p hp => ?_, fun p hp e => ne' p hp (List.mem_singleton.mp e), off', j'⟩
    rcases List.mem_append.mp hp with hp | hp
    · exact same p hp p (List.mem_singleton.mpr rfl)
    · exact N' _ (.tail _ hp)
/-- for x in a tuple -/
theorem tupN {ax : Addr} {its : Array Value} {k : Nat} {m₀ : Str → Option Value} {news : List (Addr × Obj)} (hh : A.handled = none)
    (F : Fr h₀ env.locals s.heap m₀) (N : News h₀ env.locals s.heap news) (hm : (ax, ({ cls := .type "tuple", data := .seq its k } : Obj)) ∈ news)
    (xs : List Str) (J : Nat → (Str → Option Value) → List (Addr × Obj) → Prop) (h0 : J 0 m₀ news) (hJ : ∀ i m l, J i m l → (ax, ({ cls := .type "tuple", data := .seq its k } : Obj)) ∈ l)
    (step : ∀ i v m₁ news₁ h₁ tk₁ I oI, i < its.size → its[i]? = some v → J i m₁ news₁ → (∀ y, y ∉ xs → m₁ y = m₀ y) → (∀ p ∈ news₁, p.1 ≠ I) → Fr h₀ env.locals h₁ m₁ → News h₀ env.locals h₁ ((I, oI) :: news₁) →
      wpAny (model prog w) A (assign (.Name x xp) env v) (fun _ s₂ => StepN prog w A h₀ env s R body I oI xs m₀ (J (i + 1)) s₂) (fun _ _ => False) { s with heap := h₁, toks := tk₁ })
    (hR : ∀ h' tk m' news', Fr h₀ env.locals h' m' → News h₀ env.locals h' news' → (∀ y, y ∉ xs → m' y = m₀ y) → J its.size m' news' → R (.ok .next) { s with heap := h', toks := tk }) :
    wpAny (model prog w) A (pyIter (.ref ax)) (fun it s₂ => codeN (model prog w) A (.forLoop (.Name x xp) it body [] env) R s₂) E s := by
  have hl : s.heap.IsTuple ax its := ⟨_, (N _ hm).1, rfl, k, rfl⟩
  have hlt : ax < s.heap.objs.size := Heap.lt_size (N _ hm).1
  refine wpAny_pyIter_tuple hl ?_
  refine loopNI (s := { s with heap := _ }) (KTurns.ofWalks (Walks.tuple hh s.heap.objs.size ax (Nat.ne_of_lt hlt) its) fun i v s Q E st q => by unfold letOwnedTupleGo; exact wpAny_pure q) ?_ (next_is_new F) (fun p hp => Nat.ne_of_lt (Heap.lt_size (N p hp).1))
    ⟨⟨_, Heap.get?_push_size _ rfl, rfl, rfl⟩, hl.push _⟩ (fun i h st => by obtain ⟨o, e, _⟩ := st.1; exact ⟨o, e⟩) (F.push _) (fun p hp => ⟨Heap.get?_push_of_some _ (N p hp).1, (N p hp).2⟩) xs J h0 (fun b hb hn => ?_) (fun i v m₁ news₁ h₁ tk₁ oI hi hP => step i v m₁ news₁ h₁ tk₁ _ oI hi hP) hR
  · intro hq
    rcases List.mem_cons.mp hq with e | hq
    · exact absurd F.ns.lt (e ▸ Nat.lt_irrefl _)
    · exact (N _ hm).2.1 (List.mem_singleton.mp hq).symm
  · rcases List.mem_cons.mp hb with e | hb
    · exact absurd e hn
    · rw [List.mem_singleton.mp hb]
      exact ⟨_, hJ⟩
/-- for x in range(n) -/
theorem rangeN {r : Addr} {b₀ : Int} {t₀ u₀ v₀ : Tok} {n : Nat} {m₀ : Str → Option Value} {news : List (Addr × Obj)}
    (hh : A.handled = none) (hr : IsRange s.heap r 0 b₀ 1 t₀ u₀ v₀) (hsmall : Builtin.Range.small 0 b₀ 1 = true) (hn : Builtin.Range.rangeSize 0 b₀ 1 = (n : Int)) (F : Fr h₀ env.locals s.heap m₀) (N : News h₀ env.locals s.heap news)
    (xs : List Str) (J : Nat → (Str → Option Value) → List (Addr × Obj) → Prop) (h0 : J 0 m₀ news)
    (step : ∀ i t m₁ news₁ h₁ tk₁ I oI, i < n → J i m₁ news₁ → (∀ y, y ∉ xs → m₁ y = m₀ y) → (∀ p ∈ news₁, p.1 ≠ I) → Fr h₀ env.locals h₁ m₁ → News h₀ env.locals h₁ ((I, oI) :: news₁) →
      wpAny (model prog w) A (assign (.Name x xp) env (.int (i : Int) t)) (fun _ s₂ => StepN prog w A h₀ env s R body I oI xs m₀ (J (i + 1)) s₂) (fun _ _ => False) { s with heap := h₁, toks := tk₁ })
    (hR : ∀ h' tk m' news', Fr h₀ env.locals h' m' → News h₀ env.locals h' news' → (∀ y, y ∉ xs → m' y = m₀ y) → J n m' news' → R (.ok .next) { s with heap := h', toks := tk }) :
    wpAny (model prog w) A (pyIter (.ref r)) (fun it s₂ => codeN (model prog w) A (.forLoop (.Name x xp) it body [] env) R s₂) E s := by
  refine wpAny_pyIter_range hr hsmall ?_
  have W : Walks prog w A s.heap.objs.size [s.heap.objs.size] [s.heap.objs.size] n (fun i v => ∃ t, v = .int (0 + i * 1) t)
      (fun i h => IsRangeIter h s.heap.objs.size (0 + (i : Nat) * 1) ((n : Int) - (i : Nat)) 1) := Walks.range hh _ 0 1 n
  refine loopNI (s := { s with heap := _ }) (KTurns.ofWalks W fun i v s Q E st q => by unfold letOwnedTupleGo; exact wpAny_pure q) ?_ (next_is_new F) (fun p hp => Nat.ne_of_lt (Heap.lt_size (N p hp).1))
    ?_ (fun i h st => ⟨_, st⟩) (F.push _) (fun p hp => ⟨Heap.get?_push_of_some _ (N p hp).1, (N p hp).2⟩) xs J h0 (fun b hb hn => absurd (List.mem_singleton.mp hb) hn) ?_ hR
  · intro hq
    exact absurd F.ns.lt ((List.mem_singleton.mp hq) ▸ Nat.lt_irrefl _)
  · show IsRangeIter _ _ _ _ _
    rw [hn]
    simpa using Heap.get?_push_size _ rfl
  · rintro i v m₁ news₁ h₁ tk₁ oI hi ⟨t, rfl⟩
    have e0 : (0 + (i : Int) * 1) = (i : Int) := by omega
    rw [e0]
    exact step i t m₁ news₁ h₁ tk₁ _ oI hi
end
end Mine
end
section
namespace Mine
section
variable {prog : Program} {w : World} {A : Around} {E : Value → Shared → Prop} {s : Shared} {env : Env} {h₀ : Heap} {xp : Pos} {body : List Stmt} {R : Result → Shared → Prop}
theorem bestLoop {ax T0 : Addr} {its : Array Value} {k : Nat} {b9 : Array UInt8} {j0 : Int} {tj0 tb0 : Tok} {m₀ : Str → Option Value} {news : List (Addr × Obj)} (hh : A.handled = none)
    (F : Fr h₀ env.locals s.heap m₀) (N : News h₀ env.locals s.heap ((ax, ({ cls := .type "tuple", data := .seq its k } : Obj)) :: (T0, tupObj j0 b9 tj0 tb0) :: news)) (hb : m₀ "best" = some (.ref T0))
    (P : Nat → Int → Array UInt8 → Prop) (h0 : P 0 j0 b9)
    (step : ∀ i v a1 a2 T j bb tj tb h₁ tk₁ I oI, i < its.size → its[i]? = some v → P i j bb → I ≠ ax → I ≠ T → (∀ p ∈ news, p.1 ≠ I) → Fr h₀ env.locals h₁ (fun y : Str => if y = "kind" then a1 else if y = "told" then a2 else if y = "best" then some (.ref T) else m₀ y) →
      News h₀ env.locals h₁ ((I, oI) :: (ax, ({ cls := .type "tuple", data := .seq its k } : Obj)) :: (T, tupObj j bb tj tb) :: news) →
      wpAny (model prog w) A (assign (.Name "kind" xp) env v) (fun _ s₂ => wpN (model prog w) A (execs body env) (fun fl s₃ =>
        fl = .next ∧ ∃ h' tk m' T' j' bb' tj' tb', s₃ = { s with heap := h', toks := tk } ∧ Fr h₀ env.locals h' m' ∧ News h₀ env.locals h' ((I, oI) :: (ax, ({ cls := .type "tuple", data := .seq its k } : Obj)) :: (T', tupObj j' bb' tj' tb') :: news) ∧
          I ≠ T' ∧ (∀ y : Str, y ∉ ([(Str.ofString "kind"), (Str.ofString "told"), (Str.ofString "best")] : List Str) → m' y = m₀ y) ∧ m' "best" = some (.ref T') ∧ P (i + 1) j' bb') (fun _ _ => False) s₂) (fun _ _ => False) { s with heap := h₁, toks := tk₁ })
    (hR : ∀ h' tk a1 a2 T j bb tj tb, Fr h₀ env.locals h' (fun y : Str => if y = "kind" then a1 else if y = "told" then a2 else if y = "best" then some (.ref T) else m₀ y) → News h₀ env.locals h' ((T, tupObj j bb tj tb) :: news) → P its.size j bb → R (.ok .next) { s with heap := h', toks := tk }) :
    wpAny (model prog w) A (pyIter (.ref ax)) (fun it s₂ => codeN (model prog w) A (.forLoop (.Name "kind" xp) it body [] env) R s₂) E s := by
  have key : ∀ (m₁ : Str → Option Value) (T : Addr), (∀ y : Str, y ∉ ([(Str.ofString "kind"), (Str.ofString "told"), (Str.ofString "best")] : List Str) → m₁ y = m₀ y) → m₁ "best" = some (.ref T) → ∃ a1 a2, m₁ = fun y : Str => if y = "kind" then a1 else if y = "told" then a2 else if y = "best" then some (.ref T) else m₀ y := by
    intro m₁ T ho hT
    obtain ⟨a, b, c, rfl⟩ := off3 ho
    have hc : c = some (.ref T) := hT
    subst hc
    exact ⟨a, b, rfl⟩
  refine tupN hh F N (.head _) ([(Str.ofString "kind"), (Str.ofString "told"), (Str.ofString "best")] : List Str) (fun i m l => ∃ T j bb tj tb, l = (ax, ({ cls := .type "tuple", data := .seq its k } : Obj)) :: (T, tupObj j bb tj tb) :: news ∧ m "best" = some (.ref T) ∧ P i j bb)
    ⟨T0, j0, b9, tj0, tb0, rfl, hb, h0⟩ (fun i m l h => ?_) ?_ ?_
  · obtain ⟨_, _, _, _, _, rfl, _⟩ := h
    exact .head _
  · rintro i v m₁ _ h₁ tk₁ I oI hi hv ⟨T, j, bb, tj, tb, rfl, hT, hP⟩ hoff hne F₁ N₁
    obtain ⟨a1, a2, rfl⟩ := key m₁ T hoff hT
    refine wpAny_mono (step i v a1 a2 T j bb tj tb h₁ tk₁ I oI hi hv hP (hne _ (.head _)).symm (hne _ (.tail _ (.head _))).symm (fun p hp => hne p (.tail _ (.tail _ hp))) F₁ N₁) (fun _ s₂ h2 => wpN_mono h2 (fun fl s₃ h3 => ?_) fun _ _ x => x) fun _ _ x => x
    obtain ⟨rfl, h', tk, m', T', j', bb', tj', tb', rfl, F', N', hI, off', hb', hP'⟩ := h3
    refine ⟨h', tk, m', _, rfl, F', N', ?_, off', T', j', bb', tj', tb', rfl, hb', hP'⟩
    intro p hp
    rcases List.mem_cons.mp hp with rfl | hp
    · exact hne _ (.head _)
    · rcases List.mem_cons.mp hp with rfl | hp
      · exact hI.symm
      · exact hne _ (.tail _ (.tail _ hp))
  · rintro h' tk m' _ F' N' off' ⟨T, j, bb, tj, tb, rfl, hT, hP⟩
    obtain ⟨a1, a2, rfl⟩ := key m' T off' hT
    exact hR h' tk a1 a2 T j bb tj tb F' (fun p hp => N' p (.tail _ hp)) hP
end
end Mine
end
section
local macro_rules | `(tactic| walk_at "no key of the walk") => `(tactic| fail "no line")
namespace Mine
section
local macro_rules | `(tactic| walk_at "call ref") => `(tactic| (k_here; first | with_reducible refine heldAt 83 ?_))
local macro_rules | `(tactic| walk_at "eval Call Name") => `(tactic| (k_here; (fail_if_success (with_reducible show wpAny _ _ (eval (Expr.Call (Expr.Name "range" _) _ _ _) _) _ _ _)); with_reducible refine Call_ ?_))
local macro_rules | `(tactic| k_all) => `(tactic| first | assumption | (refine ne_next (by assumption) ?_; omega))

set_option maxHeartbeats 8000000 in
theorem best_callN (w : World) (b c : Array UInt8) (row ahead : List Int) (st : Int) (t1 t2 t3 : Tok) (news : List (Addr × Obj)) (hbI : KBw.bInts b = row) (hcI : KBw.bInts c = ahead) (hb : b.size ≤ 8) (hc : c.size = b.size) (h0 : 1 ≤ st) (h1 : st ≤ 3) :
    ToldN w 90 4 48 [.bytes b t1, .bytes c t2, .int st t3] news (RBest news (bestK row ahead st 4) (filtF (bestK row ahead st 4) row ahead st)) := by
  subst hbI hcI
  w_top off
  dsimp only [ToldN, KF, VW, LO, PP]
  k_fill
  intros
  rename_i hret
  refine wpN_call ?_
  (first | k_dflt (refine' intoN ?k1 ?k2 ?k3 ?k4 ?k5 ?kA ?kF ?kK ?k6 ?k7 ?k8 ?k9 ?kB ?kD ?_ ?c2 ?c3 ?c4; (case kA => exact rfl); (case kF => exact rfl); (case kK => first | exact rfl | assumption); (case k1 => k_asm); (case k2 => k_asm); (case k3 => k_asm); (case k4 => k_asm); (case k5 => k_asm); (case k6 => k_is); (case k7 => k_is); (case k8 => ktr_room); (case k9 => first | exact BindsTo.of_eq rfl | exact binds_K (by k_in) rfl (by k_is) rfl rfl rfl); (case kB => exact rfl); (case kD => decide +kernel); (case c2 => exact rfl); (case c3 => exact rfl); (case c4 => exact rfl); k_whole; intro g' L' h' tk' cells' FG' F' N' Y' B' X' T' lN; (have Y0 : CellsAre _ [] cells' := Y'); cases Y0; clear Y'; (try simp only [List.cons_append, List.nil_append] at N'); (try dsimp only); (try k_lift B'); (try k_fold)) | fail "not entered")
  refine wpN_execs_cons (wpN_Assign_Name (Tuple2N ?_))
  (k_steps; repeat (any_goals ((refine unheld ?_; first | ((with_reducible show wpAny _ _ (PySem.call (Value.ref 83) [Value.bytes _ _]) _ _ _); k_dflt (refine' weight_call _ _ _ _ ?zhbz _ _ _ _ _ _ _ _ _ _ _ _ _ _ _ _ _ _ _ _ ?zkBz ?zkFz ?zkXz ?zkNz ?zkTz ?zkkz ?zkdz ?zkuz ?_; (case zkBz => k_asm); (case zkFz => k_asm); (case zkXz => k_asm); (case zkNz => k_asm); (case zkTz => k_asm); (case zkkz => first | exact rfl | assumption); (case zkdz => ktr_room); (case zkuz => ktr_units); (case zhbz => assumption)); intro zt9z zh9z ztk9z zF9z zN9z; (try dsimp only); (try k_fold); (try k_sweep))); (try k_steps))))
  refine CallN ?_
  (k_steps; repeat (any_goals ((refine unheld ?_; first | ((with_reducible show wpAny _ _ (PySem.call (Value.ref 83) [Value.bytes _ _]) _ _ _); k_dflt (refine' weight_call _ _ _ _ ?zhbz _ _ _ _ _ _ _ _ _ _ _ _ _ _ _ _ _ _ _ _ ?zkBz ?zkFz ?zkXz ?zkNz ?zkTz ?zkkz ?zkdz ?zkuz ?_; (case zkBz => k_asm); (case zkFz => k_asm); (case zkXz => k_asm); (case zkNz => k_asm); (case zkTz => k_asm); (case zkkz => first | exact rfl | assumption); (case zkdz => ktr_room); (case zkuz => ktr_units); (case zhbz => assumption)); intro zt9z zh9z ztk9z zF9z zN9z; (try dsimp only); (try k_fold); (try k_sweep))); (try k_steps))))
  refine callWithN_K (K := hd.heap_39 w.params) (by k_is) ?_
  (k_steps; repeat (any_goals ((refine unheld ?_; first | ((with_reducible show wpAny _ _ (PySem.call (Value.ref 83) [Value.bytes _ _]) _ _ _); k_dflt (refine' weight_call _ _ _ _ ?zhbz _ _ _ _ _ _ _ _ _ _ _ _ _ _ _ _ _ _ _ _ ?zkBz ?zkFz ?zkXz ?zkNz ?zkTz ?zkkz ?zkdz ?zkuz ?_; (case zkBz => k_asm); (case zkFz => k_asm); (case zkXz => k_asm); (case zkNz => k_asm); (case zkTz => k_asm); (case zkkz => first | exact rfl | assumption); (case zkdz => ktr_room); (case zkuz => ktr_units); (case zhbz => assumption)); intro zt9z zh9z ztk9z zF9z zN9z; (try dsimp only); (try k_fold); (try k_sweep))); (try k_steps))))
  (k_dflt (refine' filtered_callN _ _ _ _ _ _ _ _ _ _ ?hb ?hc ?h0 ?h1 ?hk ?hk5 _ _ _ _ _ _ _ _ _ _ _ _ _ _ _ _ _ _ _ _ ?kB ?kF ?kX ?kN ?kT ?kk ?kd ?ku ?_; (case kB => k_asm); (case kF => k_asm); (case kX => k_asm); (case kN => k_asm); (case kT => k_asm); (case kk => first | exact rfl | assumption); (case kd => ktr_room); (case ku => ktr_units); (case hb => first | assumption | omega); (case hc => first | assumption | omega); (case h0 => first | assumption | omega); (case h1 => first | assumption | omega); (case hk => omega); (case hk5 => omega)); intro b9 t9 h9 tk9 hb9 F9 N9; (try dsimp only); (try k_fold); (try k_sweep))
  (k_steps; repeat (any_goals ((refine unheld ?_; first | ((with_reducible show wpAny _ _ (PySem.call (Value.ref 83) [Value.bytes _ _]) _ _ _); k_dflt (refine' weight_call _ _ _ _ ?zhbz _ _ _ _ _ _ _ _ _ _ _ _ _ _ _ _ _ _ _ _ ?zkBz ?zkFz ?zkXz ?zkNz ?zkTz ?zkkz ?zkdz ?zkuz ?_; (case zkBz => k_asm); (case zkFz => k_asm); (case zkXz => k_asm); (case zkNz => k_asm); (case zkTz => k_asm); (case zkkz => first | exact rfl | assumption); (case zkdz => ktr_room); (case zkuz => ktr_units); (case zhbz => assumption)); intro zt9z zh9z ztk9z zF9z zN9z; (try dsimp only); (try k_fold); (try k_sweep))); (try k_steps))))
  refine wpN_execs_cons (wpN_For ?_)
  (k_steps; repeat (any_goals ((refine unheld ?_; first | ((with_reducible show wpAny _ _ (PySem.call (Value.ref 83) [Value.bytes _ _]) _ _ _); k_dflt (refine' weight_call _ _ _ _ ?zhbz _ _ _ _ _ _ _ _ _ _ _ _ _ _ _ _ _ _ _ _ ?zkBz ?zkFz ?zkXz ?zkNz ?zkTz ?zkkz ?zkdz ?zkuz ?_; (case zkBz => k_asm); (case zkFz => k_asm); (case zkXz => k_asm); (case zkNz => k_asm); (case zkTz => k_asm); (case zkkz => first | exact rfl | assumption); (case zkdz => ktr_room); (case zkuz => ktr_units); (case zhbz => assumption)); intro zt9z zh9z ztk9z zF9z zN9z; (try dsimp only); (try k_fold); (try k_sweep))); (try k_steps))))
  refine bestLoop rfl (by assumption) (by assumption) rfl (fun i j bb => j = bestK (KBw.bInts b) (KBw.bInts c) st i ∧ KBw.bInts bb = filtF (bestK (KBw.bInts b) (KBw.bInts c) st i) (KBw.bInts b) (KBw.bInts c) st) ⟨rfl, hb9⟩
    (fun i v a1 a2 T j bb tj tb h₁ tk₁ I oI hi hv hP hIx hIT hIn F₁ N₁ => ?_) (fun h₂ tk₂ a1 a2 T j bb tj tb F₂ N₂ hP => ?_)
  · clear hret
    obtain ⟨rfl, hP⟩ := hP
    have hki : ∃ t, v = .int ((i : Int) + 1) t ∧ i < 4 := by
      have hi4 : i < 4 := hi
      obtain rfl | rfl | rfl | rfl : i = 0 ∨ i = 1 ∨ i = 2 ∨ i = 3 := by omega
      all_goals (cases hv; exact ⟨_, rfl, by decide⟩)
    obtain ⟨tv, rfl, hi4⟩ := hki
    refine postN2 fun Q8 hQ8 => ?_
    (k_steps; repeat (any_goals ((refine unheld ?_; first | ((with_reducible show wpAny _ _ (PySem.call (Value.ref 83) [Value.bytes _ _]) _ _ _); k_dflt (refine' weight_call _ _ _ _ ?zhbz _ _ _ _ _ _ _ _ _ _ _ _ _ _ _ _ _ _ _ _ ?zkBz ?zkFz ?zkXz ?zkNz ?zkTz ?zkkz ?zkdz ?zkuz ?_; (case zkBz => k_asm); (case zkFz => k_asm); (case zkXz => k_asm); (case zkNz => k_asm); (case zkTz => k_asm); (case zkkz => first | exact rfl | assumption); (case zkdz => ktr_room); (case zkuz => ktr_units); (case zhbz => assumption)); intro zt9z zh9z ztk9z zF9z zN9z; (try dsimp only); (try k_fold); (try k_sweep))); (try k_steps))))
    refine wpN_execs_cons (wpN_Assign_Name (CallN ?_))
    (k_steps; repeat (any_goals ((refine unheld ?_; first | ((with_reducible show wpAny _ _ (PySem.call (Value.ref 83) [Value.bytes _ _]) _ _ _); k_dflt (refine' weight_call _ _ _ _ ?zhbz _ _ _ _ _ _ _ _ _ _ _ _ _ _ _ _ _ _ _ _ ?zkBz ?zkFz ?zkXz ?zkNz ?zkTz ?zkkz ?zkdz ?zkuz ?_; (case zkBz => k_asm); (case zkFz => k_asm); (case zkXz => k_asm); (case zkNz => k_asm); (case zkTz => k_asm); (case zkkz => first | exact rfl | assumption); (case zkdz => ktr_room); (case zkuz => ktr_units); (case zhbz => assumption)); intro zt9z zh9z ztk9z zF9z zN9z; (try dsimp only); (try k_fold); (try k_sweep))); (try k_steps))))
    refine callWithN_K (K := hd.heap_39 w.params) (by k_is) ?_
    (k_steps; repeat (any_goals ((refine unheld ?_; first | ((with_reducible show wpAny _ _ (PySem.call (Value.ref 83) [Value.bytes _ _]) _ _ _); k_dflt (refine' weight_call _ _ _ _ ?zhbz _ _ _ _ _ _ _ _ _ _ _ _ _ _ _ _ _ _ _ _ ?zkBz ?zkFz ?zkXz ?zkNz ?zkTz ?zkkz ?zkdz ?zkuz ?_; (case zkBz => k_asm); (case zkFz => k_asm); (case zkXz => k_asm); (case zkNz => k_asm); (case zkTz => k_asm); (case zkkz => first | exact rfl | assumption); (case zkdz => ktr_room); (case zkuz => ktr_units); (case zhbz => assumption)); intro zt9z zh9z ztk9z zF9z zN9z; (try dsimp only); (try k_fold); (try k_sweep))); (try k_steps))))
    (k_dflt (refine' filtered_callN _ _ _ _ _ _ _ _ _ _ ?hb ?hc ?h0 ?h1 ?hk ?hk5 _ _ _ _ _ _ _ _ _ _ _ _ _ _ _ _ _ _ _ _ ?kB ?kF ?kX ?kN ?kT ?kk ?kd ?ku ?_; (case kB => k_asm); (case kF => k_asm); (case kX => k_asm); (case kN => k_asm); (case kT => k_asm); (case kk => first | exact rfl | assumption); (case kd => ktr_room); (case ku => ktr_units); (case hb => first | assumption | omega); (case hc => first | assumption | omega); (case h0 => first | assumption | omega); (case h1 => first | assumption | omega); (case hk => omega); (case hk5 => omega)); intro b9 t9 h9 tk9 hb9 F9 N9; (try dsimp only); (try k_fold); (try k_sweep))
    have hs9 : b9.size ≤ 1000 := by rw [← KBw.ints_length, hb9, filtF_length, KBw.ints_length]; omega
    have hsb : bb.size ≤ 1000 := by rw [← KBw.ints_length, hP, filtF_length, KBw.ints_length]; omega
    (k_steps; repeat (any_goals ((refine unheld ?_; first | ((with_reducible show wpAny _ _ (PySem.call (Value.ref 83) [Value.bytes _ _]) _ _ _); k_dflt (refine' weight_call _ _ _ _ ?zhbz _ _ _ _ _ _ _ _ _ _ _ _ _ _ _ _ _ _ _ _ ?zkBz ?zkFz ?zkXz ?zkNz ?zkTz ?zkkz ?zkdz ?zkuz ?_; (case zkBz => k_asm); (case zkFz => k_asm); (case zkXz => k_asm); (case zkNz => k_asm); (case zkTz => k_asm); (case zkkz => first | exact rfl | assumption); (case zkdz => ktr_room); (case zkuz => ktr_units); (case zhbz => assumption)); intro zt9z zh9z ztk9z zF9z zN9z; (try dsimp only); (try k_fold); (try k_sweep))); (try k_steps))))
    refine wpN_execs_A ?_
    (k_steps; repeat (any_goals ((refine unheld ?_; first | ((with_reducible show wpAny _ _ (PySem.call (Value.ref 83) [Value.bytes _ _]) _ _ _); k_dflt (refine' weight_call _ _ _ _ ?zhbz _ _ _ _ _ _ _ _ _ _ _ _ _ _ _ _ _ _ _ _ ?zkBz ?zkFz ?zkXz ?zkNz ?zkTz ?zkkz ?zkdz ?zkuz ?_; (case zkBz => k_asm); (case zkFz => k_asm); (case zkXz => k_asm); (case zkNz => k_asm); (case zkTz => k_asm); (case zkkz => first | exact rfl | assumption); (case zkdz => ktr_room); (case zkuz => ktr_units); (case zhbz => assumption)); intro zt9z zh9z ztk9z zF9z zN9z; (try dsimp only); (try k_fold); (try k_sweep))); (try k_steps))))
    all_goals (try dsimp only)
    all_goals refine .of (wpAny_execs_nil (hQ8 _ _ ?_))
    · have hlt : wSum (filtF ((i : Int) + 1) (KBw.bInts b) (KBw.bInts c) st) < wSum (filtF (bestK (KBw.bInts b) (KBw.bInts c) st i) (KBw.bInts b) (KBw.bInts c) st) := by
        rw [← weightF_eq hb9, ← weightF_eq hP]; assumption
      have hbk : bestK (KBw.bInts b) (KBw.bInts c) st (i + 1) = (i : Int) + 1 := by unfold bestK; rw [if_pos hlt]
      refine ⟨rfl, _, _, _, _, (i : Int) + 1, b9, tv, t9, rfl, (by assumption), ?_, ?_, ?_, rfl, hbk.symm, ?_⟩
      · rename News _ _ _ _ => kN9
        exact fun p hp => kN9 p (by simp only [List.mem_cons] at hp ⊢; rcases hp with h | h | h | h <;> simp [h])
      · k_ne
      · intro y hy
        simp only [List.mem_cons, List.not_mem_nil, or_false, not_or] at hy
        simp only [hy.1, hy.2.1, hy.2.2, if_false]
      · rw [hbk]; exact hb9
    · have hlt : ¬ wSum (filtF ((i : Int) + 1) (KBw.bInts b) (KBw.bInts c) st) < wSum (filtF (bestK (KBw.bInts b) (KBw.bInts c) st i) (KBw.bInts b) (KBw.bInts c) st) := by
        rw [← weightF_eq hb9, ← weightF_eq hP]; assumption
      have hbk : bestK (KBw.bInts b) (KBw.bInts c) st (i + 1) = bestK (KBw.bInts b) (KBw.bInts c) st i := by
        show (if _ then _ else _) = _
        rw [if_neg hlt]
      refine ⟨rfl, _, _, _, _, _, _, _, _, rfl, (by assumption), (by assumption), hIT, ?_, rfl, hbk.symm, ?_⟩
      · intro y hy
        simp only [List.mem_cons, List.not_mem_nil, or_false, not_or] at hy
        simp only [hy.1, hy.2.1, hy.2.2, if_false]
      · rw [hbk]; exact hP
  · obtain ⟨rfl, hP⟩ := hP
    refine wpN_execs_A ?_
    (k_steps; repeat (any_goals ((refine unheld ?_; first | ((with_reducible show wpAny _ _ (PySem.call (Value.ref 83) [Value.bytes _ _]) _ _ _); k_dflt (refine' weight_call _ _ _ _ ?zhbz _ _ _ _ _ _ _ _ _ _ _ _ _ _ _ _ _ _ _ _ ?zkBz ?zkFz ?zkXz ?zkNz ?zkTz ?zkkz ?zkdz ?zkuz ?_; (case zkBz => k_asm); (case zkFz => k_asm); (case zkXz => k_asm); (case zkNz => k_asm); (case zkTz => k_asm); (case zkkz => first | exact rfl | assumption); (case zkdz => ktr_room); (case zkuz => ktr_units); (case zhbz => assumption)); intro zt9z zh9z ztk9z zF9z zN9z; (try dsimp only); (try k_fold); (try k_sweep))); (try k_steps))))
    exact hret _ _ _ _ _ _ hP (by assumption) (by assumption)
end
end Mine
end
section
namespace Mine
open PyProof.Rows.LCg
theorem off3_updF {I C D d : Addr} {o o' : Obj} {news : List (Addr × Obj)} {nf : Obj → List (Addr × Obj)} (U : UpdF d o news nf) (h : Off3 I C D news) : Off3 I C D (nf o') := by
  induction U with
  | head _ => exact ⟨h.1, h.2⟩
  | tail _ _ ih => exact ⟨h.1, ih h.2⟩
theorem updF_self {d : Addr} {o : Obj} {news : List (Addr × Obj)} {nf : Obj → List (Addr × Obj)} (U : UpdF d o news nf) : nf o = news := by
  induction U with
  | head _ => rfl
  | tail _ _ ih => exact congrArg (List.cons _) ih
theorem updF_next {d : Addr} {o o' : Obj} {news : List (Addr × Obj)} {nf : Obj → List (Addr × Obj)} (U : UpdF d o news nf) : UpdF d o' (nf o') nf := by
  induction U with
  | head h => exact .head h
  | tail h _ ih => exact .tail h ih
theorem off3_same {I C D : Addr} : ∀ {l l' : List (Addr × Obj)}, Off3 I C D l → l.map (·.1) = l'.map (·.1) → Off3 I C D l'
  | [], [], _, _ => trivial
  | [], _ :: _, _, h => by cases h
  | _ :: _, [], _, h => by cases h
  | p :: r, q :: t, h, e => by
    simp only [List.map_cons, List.cons.injEq] at e
    exact ⟨by rw [← e.1]; exact h.1, off3_same h.2 e.2⟩
section
variable {prog : Program} {w : World} {A : Around} {E : Value → Shared → Prop} {s : Shared} {h₀ : Heap} {L : Addr} {m : Str → Option Value} {env : Env}
/-- octets are drawn -/
abbrev OctPost (nf : Obj → List (Addr × Obj)) (k : Nat) (y : Value) (nw' : List (Addr × Obj)) : Prop :=
  ∃ (r : Int) (t : Tok) (a b : Int) (ta tb : Tok), y = .int r t ∧ 0 ≤ r ∧ r < 256 ∧ 0 ≤ a ∧ 0 ≤ b ∧ b < 2147483647 ∧ nw' = nf (poolObj a b ta tb k)
theorem octets_rest {elt : Expr} {x : Str} {scope : Scope} {cl : List (Str × Addr)} {S : List (Addr × Obj) → Prop} {n k : Nat} {P : Nat → Value → Prop} {Fin : List Value → List (Addr × Obj) → Prop} {src : Addr} {a b : Int} {ta tb : Tok} {nf : Obj → List (Addr × Obj)} {news : List (Addr × Obj)} (U : UpdF src (poolObj a b ta tb k) news nf)
    (h0 : 0 ≤ a) (hb0 : 0 ≤ b) (hb : b < 2147483647)
    (turn : ∀ i v a b ta tb ys I oI C oC D m₂ h tk (E' : Value → Shared → Prop), 0 ≤ a → 0 ≤ b → b < 2147483647 → i < n → P i v → NsObj oC m₂ → m₂ x = some v → Fr h₀ L h m → News h₀ L h ((I, oI) :: (C, oC) :: (D, lst ys) :: nf (poolObj a b ta tb k)) → Off3 I C D (nf (poolObj a b ta tb k)) → ((@Ne Nat I C) ∧ (@Ne Nat I D) ∧ (@Ne Nat C D)) →
      wpAny (model prog w) A (eval elt (compEnvC scope cl C env)) (CompEnd h₀ L m { s with heap := h, toks := tk } I oI C oC D (lst ys) S (OctPost nf k)) E' { s with heap := h, toks := tk })
    (fin : ∀ ys ks a b ta tb, IntsAre ys ks → ks.length = n → (∀ q ∈ ks, 0 ≤ q ∧ q < 256) → 0 ≤ a → 0 ≤ b → b < 2147483647 → Fin ys (nf (poolObj a b ta tb k))) : CompRest prog w A h₀ L m env elt x scope cl s S P Fin n 0 [] news := by
  rw [← updF_self U]
  refine cgoal_rest (fun i ys nw => ∃ ks a b ta tb, IntsAre ys ks ∧ ks.length = i ∧ (∀ q ∈ ks, 0 ≤ q ∧ q < 256) ∧ 0 ≤ a ∧ 0 ≤ b ∧ b < 2147483647 ∧ nw = nf (poolObj a b ta tb k)) ⟨[], a, b, ta, tb, .nil, rfl, (fun _ h => nomatch h), h0, hb0, hb, rfl⟩ ?_ ?_
  · rintro i v ys nw I oI C oC D m₂ h tk E' hi hv ⟨ks, a, b, ta, tb, hys, hlen, hks, h0, hb0, hb, rfl⟩ hC hx F N off ne
    refine wpAny_mono (turn i v a b ta tb ys I oI C oC D m₂ h tk E' h0 hb0 hb hi hv hC hx F N off ne) (fun y s₂ hq => ?_) fun _ _ x => x
    obtain ⟨h', tk', nw', e, F', N', off', hS, r, t, a2, b2, ta2, tb2, rfl, r0, r1, a0, b0, b1, rfl⟩ := hq
    refine ⟨h', tk', _, e, F', N', off', hS, ks ++ [r], a2, b2, ta2, tb2, hys.append (.cons _ _ .nil), by simp [hlen], ?_, a0, b0, b1, rfl⟩
    intro q hq
    rcases List.mem_append.mp hq with hq | hq
    · exact hks q hq
    · rw [List.mem_singleton.mp hq]; exact ⟨r0, r1⟩
  · rintro ys nw ⟨ks, a, b, ta, tb, hys, hlen, hks, h0, hb0, hb, rfl⟩
    exact fin ys ks a b ta tb hys hlen hks h0 hb0 hb
theorem octets_goal {elt : Expr} {x : Str} {scope : Scope} {cl : List (Str × Addr)} {k : Nat} {Fin : Shared → List Value → List (Addr × Obj) → Prop} {src r : Addr} {a b many : Int} {ta tb t u v : Tok} {nf : Obj → List (Addr × Obj)} {news : List (Addr × Obj)} {s₁ : Shared}
    (hh : A.handled = none) (hr : IsRange s₁.heap r 0 many 1 t u v) (h1 : 0 ≤ many) (h2 : many ≤ 1000) (F : Fr h₀ L s₁.heap m) (N : News h₀ L s₁.heap news) (U : UpdF src (poolObj a b ta tb k) news nf)
    (h0 : 0 ≤ a) (hb0 : 0 ≤ b) (hb : b < 2147483647)
    (turn : ∀ (i : Nat) (t' : Tok) a b ta tb ys I oI C oC D m₂ h tk (E' : Value → Shared → Prop), 0 ≤ a → 0 ≤ b → b < 2147483647 → NsObj oC m₂ → m₂ x = some (.int (i : Int) t') → Fr h₀ L h m → News h₀ L h ((I, oI) :: (C, oC) :: (D, lst ys) :: nf (poolObj a b ta tb k)) → Off3 I C D (nf (poolObj a b ta tb k)) → ((@Ne Nat I C) ∧ (@Ne Nat I D) ∧ (@Ne Nat C D)) →
      wpAny (model prog w) A (eval elt (compEnvC scope cl C env)) (CompEnd h₀ L m { s₁ with heap := h, toks := tk } I oI C oC D (lst ys) (fun _ => True) (OctPost nf k)) E' { s₁ with heap := h, toks := tk })
    (fin : ∀ g ys ks a b ta tb, IntsAre ys ks → (ks.length : Int) = many → (∀ q ∈ ks, 0 ≤ q ∧ q < 256) → 0 ≤ a → 0 ≤ b → b < 2147483647 → Fin { s₁ with heap := g } ys (nf (poolObj a b ta tb k))) : CGoal prog w A h₀ L m env elt x scope cl Fin (.ref r) s₁ := by
  obtain ⟨n, rfl⟩ : ∃ n : Nat, many = n := ⟨many.toNat, by omega⟩
  refine ⟨_, n, _, news, src_range hh hr (range_small (by omega)) (range_size _), (by rw [PySem.sizeLine_eq]; omega), F, N, True.intro, fun g => octets_rest U h0 hb0 hb ?_ ?_⟩
  · rintro i v a b ta tb ys I oI C oC D m₂ h tk E' ha hb0 hb1 hi ⟨t', rfl⟩ hC hx F' N' off ne
    refine turn i t' a b ta tb ys I oI C oC D m₂ h tk E' ha hb0 hb1 hC ?_ F' N' off ne
    rw [hx]; simp
  · intro ys ks a b ta tb hys hlen
    exact fin g ys ks a b ta tb hys (by omega)
end
end Mine
end
section
namespace Mine
section
variable {M : Model} {A : Around} {E : Value → Shared → Prop} {s : Shared} {env : Env} {h₀ : Heap} {L : Addr} {m : Str → Option Value}
def JoinPost (f : Flow) (P : Prop) : Prop := f = .next ∧ P
/-- where ways meet behind a statement -/
theorem stmtJoin {st : Stmt} {rest : List Stmt} {Q : Flow → Shared → Prop} (_F : Fr h₀ L s.heap m) (Mid : Shared → (Str → Option Value) → Shared → Prop)
    (h1 : wpAny M A (exec st env) (fun f s' => JoinPost f (Mid s m s')) E s) (h2 : ∀ s', Mid s m s' → wpN M A (execs rest env) Q E s') : wpN M A (execs (st :: rest) env) Q E s := by
  refine wpN_execs_A (wpAny_mono h1 (fun f s' h => ?_) fun _ _ x => x)
  obtain ⟨rfl, h⟩ := h
  exact h2 s' h
theorem rows_names {D c1 c2 c3 c4 src : Addr} {x o1 o2 o3 o4 p : Obj} {v1 v4 : Option Value} {bR : Array UInt8} {tR tst : Tok} {st many : Int} {row : List Int} {news : List (Addr × Obj)} {h : Heap} {C : Prop} (N : News h₀ L h ((D, x) :: (c1, o1) :: (c2, o2) :: (c3, o3) :: (c4, o4) :: (src, p) :: news))
    (d1 : o1.data = .cell v1) (d2 : o2.data = .cell (some (.bytes bR tR))) (d3 : o3.data = .cell (some (.int st tst))) (d4 : o4.data = .cell v4) (hR : KBw.bInts bR = row) (hst : 1 ≤ st ∧ st ≤ 3) (hm : (row.length : Int) = many) (hm1 : 1 ≤ many ∧ many ≤ 6) (hq : ∀ q ∈ row, 0 ≤ q ∧ q < 256)
    (k : ∀ (o1 o2 o3 o4 : Obj) (bR : Array UInt8) (tR tst : Tok) (st : Int) (row : List Int), o1.data = .cell v1 → o2.data = .cell (some (.bytes bR tR)) → o3.data = .cell (some (.int st tst)) → o4.data = .cell v4 → KBw.bInts bR = row → 1 ≤ st → st ≤ 3 → (row.length : Int) = many → 1 ≤ row.length → row.length ≤ 6 → (∀ q ∈ row, 0 ≤ q ∧ q < 256) →
      News h₀ L h ((c1, o1) :: (c2, o2) :: (c3, o3) :: (c4, o4) :: (src, p) :: news) → C) : C :=
  k o1 o2 o3 o4 bR tR tst st row d1 d2 d3 d4 hR hst.1 hst.2 hm (by omega) (by omega) hq fun q hq => N q (.tail _ hq)
theorem law_names {D la lb c1 c2 c3 c4 : Addr} {x y o1 o2 o3 o4 : Obj} {v1 v2 v3 : Option Value} {a b : Int} {ta tb : Tok} {h : Heap} {C : Prop} (N : News h₀ L h [(D, poolObj a b ta tb 0), (la, x), (lb, y), (c1, o1), (c2, o2), (c3, o3), (c4, o4)])
    (d1 : o1.data = .cell v1) (d2 : o2.data = .cell v2) (d3 : o3.data = .cell v3) (d4 : o4.data = .cell (some (.ref D))) (ha : 0 ≤ a) (hb : 0 ≤ b) (hb1 : b < 2147483647) (hlt : (@LT.lt Nat _ c1 D) ∧ (@LT.lt Nat _ c2 D) ∧ (@LT.lt Nat _ c3 D) ∧ (@LT.lt Nat _ c4 D))
    (k : ∀ (src : Addr) (a b : Int) (ta tb : Tok) (o1 o2 o3 o4 : Obj), o1.data = .cell v1 → o2.data = .cell v2 → o3.data = .cell v3 → o4.data = .cell (some (.ref src)) → 0 ≤ a → 0 ≤ b → b < 2147483647 → ((@LT.lt Nat _ c1 src) ∧ (@LT.lt Nat _ c2 src) ∧ (@LT.lt Nat _ c3 src) ∧ (@LT.lt Nat _ c4 src)) →
      News h₀ L h [(src, poolObj a b ta tb 0), (c1, o1), (c2, o2), (c3, o3), (c4, o4)] → C) : C :=
  k D a b ta tb o1 o2 o3 o4 d1 d2 d3 d4 ha hb hb1 hlt fun p hp => N p (by simp only [List.mem_cons] at hp ⊢; rcases hp with h | h | h | h | h | h <;> simp [h])
/-- a place where the walk shall rest -/
def Hold (P : Prop) : Prop := P
theorem hold_ {α : Type} {t : Sem α} {Q : α → Shared → Prop} (h : wpAny M A t (fun v s' => Hold (Q v s')) E s) : wpAny M A t Q E s := h
end
end Mine
end
section
namespace Mine
open PyProof.Rows.LCg
section
variable {M : Model} {A : Around} {E : Value → Shared → Prop} {s : Shared} {env : Env}
/-- `x or y` as a test -/
theorem wpN_isTrue_Or2 {x y : Expr} {pos : Pos} {whole : Sem Value} {Q : Bool → Shared → Prop}
    (h : wpN M A (isTrue x env (eval x env)) (fun b s₁ => if b then Q true s₁ else wpN M A (isTrue y env (eval y env)) Q E s₁) E s) : wpN M A (isTrue (.BoolOp .Or [x, y] pos) env whole) Q E s := by
  have two : isTrue (.BoolOp .Or [x, y] pos) env whole = (isTrue x env (eval x env) >>= fun a => if a then pure true else isTrue y env (eval y env) >>= fun b => if b then pure true else pure false) := by
    rw [arm_isTrue_BoolOp]
    refine congrArg _ (funext fun a => ?_)
    cases a with
    | true => rfl
    | false =>
      show (isTrue y env (eval y env) >>= fun b => _) = (isTrue y env (eval y env) >>= fun b => _)
      exact congrArg _ (funext fun b => by cases b <;> rfl)
  rw [two]
  refine wpN_bind (wpN_mono h ?_ fun _ _ z => z)
  rintro (_ | _) s₁ q
  · exact wpN_bind (wpN_mono q (fun b s₂ z => by cases b <;> exact wpN_pure z) fun _ _ z => z)
  · exact wpN_pure q
/-- `x and y` as a value -/
theorem And2N {x y : Expr} {pos : Pos} {Q : Value → Shared → Prop}
    (h : wpAny M A (eval x env) (fun v s₁ => wpAny M A (truthy v) (fun t s₂ => if t then wpN M A (eval y env) Q E s₂ else Q v s₂) E s₁) E s) : wpN M A (eval (.BoolOp .And [x, y] pos) env) Q E s := by
  rw [arm_eval_BoolOp]
  show wpN M A (boolOp pos .And [eval x env, eval y env]) Q E s
  unfold boolOp
  refine wpA_bind (wpAny_mono h (fun v _ q => wpA_bind (wpAny_standAt (wpA_bind (wpAny_holding (wpAny_mono q ?_ fun _ _ z => z))))) fun _ _ z => z)
  rintro (_ | _) s₂ z
  · exact wpN_pure z
  · exact z
end
section
variable {prog : Program} {w : World} {A : Around} {E : Value → Shared → Prop} {s : Shared} {env : Env} {h₀ : Heap} {L : Addr} {m : Str → Option Value} {x : Str} {xp : Pos} {body : List Stmt} {R : Result → Shared → Prop}
/-- for x in range(n): the ledger stays -/
theorem rangeNF {r : Addr} {b₀ : Int} {t₀ u₀ v₀ : Tok} {n : Nat} {m₀ : Str → Option Value} {news : List (Addr × Obj)}
    (hh : A.handled = none) (hr : IsRange s.heap r 0 b₀ 1 t₀ u₀ v₀) (hsmall : Builtin.Range.small 0 b₀ 1 = true) (hn : Builtin.Range.rangeSize 0 b₀ 1 = (n : Int)) (F : Fr h₀ env.locals s.heap m₀) (N : News h₀ env.locals s.heap news)
    (xs : List Str)
    (step : ∀ i t m₁ h₁ tk₁ I oI, i < n → (∀ y, y ∉ xs → m₁ y = m₀ y) → (∀ p ∈ news, p.1 ≠ I) → Fr h₀ env.locals h₁ m₁ → News h₀ env.locals h₁ ((I, oI) :: news) →
      wpAny (model prog w) A (assign (.Name x xp) env (.int (i : Int) t)) (fun _ s₂ => wpN (model prog w) A (execs body env) (fun fl s₃ =>
        fl = .next ∧ ∃ h' tk m', s₃ = { s with heap := h', toks := tk } ∧ Fr h₀ env.locals h' m' ∧ News h₀ env.locals h' ((I, oI) :: news) ∧ (∀ y, y ∉ xs → m' y = m₀ y)) (fun _ _ => False) s₂) (fun _ _ => False) { s with heap := h₁, toks := tk₁ })
    (hR : ∀ h' tk m', Fr h₀ env.locals h' m' → News h₀ env.locals h' news → (∀ y, y ∉ xs → m' y = m₀ y) → R (.ok .next) { s with heap := h', toks := tk }) :
    wpAny (model prog w) A (pyIter (.ref r)) (fun it s₂ => codeN (model prog w) A (.forLoop (.Name x xp) it body [] env) R s₂) E s := by
  refine rangeN hh hr hsmall hn F N xs (fun _ _ l => l = news) rfl ?_ ?_
  · rintro i t m₁ _ h₁ tk₁ I oI hi rfl hoff hne F₁ N₁
    refine wpAny_mono (step i t m₁ h₁ tk₁ I oI hi hoff hne F₁ N₁) (fun _ s₂ h2 => wpN_mono h2 (fun fl s₃ h3 => ?_) fun _ _ x => x) fun _ _ x => x
    obtain ⟨rfl, h', tk, m', rfl, F', N', off'⟩ := h3
    exact ⟨h', tk, m', _, rfl, F', N', hne, off', rfl⟩
  · rintro h' tk m' _ F' N' off' rfl
    exact hR h' tk m' F' N' off'
/-- a list of bytes, the i-th with the octets f i -/
def ToldAre (f : Int → List Int) (n : Nat) (ys : List Value) : Prop := ys.length = n ∧ ∀ k < n, ∃ b t, ys[k]? = some (.bytes b t) ∧ KBw.bInts b = f k
theorem told_goal {elt : Expr} {scope : Scope} {cl : List (Str × Addr)} {Fin : Shared → List Value → List (Addr × Obj) → Prop} {r : Addr} {many : Int} {t u v : Tok} {n : Nat} {news : List (Addr × Obj)} {s₁ : Shared}
    (hh : A.handled = none) (hr : IsRange s₁.heap r 0 many 1 t u v) (hm : many = (n : Int)) (h2 : n ≤ 1000) (F : Fr h₀ L s₁.heap m) (N : News h₀ L s₁.heap news) (f : Int → List Int)
    (turn : ∀ (i : Nat) (t' : Tok) ys I oI C oC D m₂ h tk (E' : Value → Shared → Prop), i < n → NsObj oC m₂ → m₂ x = some (.int (i : Int) t') → Fr h₀ L h m → News h₀ L h ((I, oI) :: (C, oC) :: (D, lst ys) :: news) → Off3 I C D news → ((@Ne Nat I C) ∧ (@Ne Nat I D) ∧ (@Ne Nat C D)) →
      wpAny (model prog w) A (eval elt (compEnvC scope cl C env)) (CompEnd h₀ L m { s₁ with heap := h, toks := tk } I oI C oC D (lst ys) (fun _ => True) (fun y nw' => nw' = news ∧ ∃ b t, y = .bytes b t ∧ KBw.bInts b = f i)) E' { s₁ with heap := h, toks := tk })
    (fin : ∀ g ys, ToldAre f n ys → Fin { s₁ with heap := g } ys news) : CGoal prog w A h₀ L m env elt x scope cl Fin (.ref r) s₁ := by
  subst hm
  refine ⟨_, n, _, news, src_range hh hr (range_small (by omega)) (range_size _), (by rw [PySem.sizeLine_eq]; omega), F, N, True.intro, fun g => ?_⟩
  refine cgoal_rest (fun i ys nw => nw = news ∧ ToldAre f i ys) ⟨rfl, rfl, fun k hk => absurd hk (Nat.not_lt_zero _)⟩ ?_ (fun ys nw h => h.1 ▸ fin g ys h.2)
  rintro i v ys nw I oI C oC D m₂ h tk E' hi ⟨t', rfl⟩ ⟨rfl, hlen, hall⟩ hC hx F' N' off ne
  refine wpAny_mono (turn i t' ys I oI C oC D m₂ h tk E' hi hC (by rw [hx]; simp) F' N' off ne) (fun y s₂ hq => ?_) fun _ _ x => x
  obtain ⟨h', tk', nw', e, F'', N'', off', hS, rfl, b, tb, rfl, hb⟩ := hq
  refine ⟨h', tk', _, e, F'', N'', off', hS, rfl, by simp [hlen], fun k hk => ?_⟩
  by_cases e : k < i
  · obtain ⟨b', t2, h1, h2⟩ := hall k e
    exact ⟨b', t2, by rw [List.getElem?_append_left (by omega)]; exact h1, h2⟩
  · have : k = i := by omega
    subst this
    exact ⟨b, tb, by rw [List.getElem?_append_right (by omega), hlen]; simp, hb⟩
/-- ints out of the items of a list -/
theorem ints_goal {elt : Expr} {scope : Scope} {cl : List (Str × Addr)} {Fin : Shared → List Value → List (Addr × Obj) → Prop} {ax : Addr} {its : Array Value} {kk : Nat} {news : List (Addr × Obj)} {s₁ : Shared}
    (hh : A.handled = none) (F : Fr h₀ L s₁.heap m) (N : News h₀ L s₁.heap news) (hm : (ax, PySem.W.listOf its kk) ∈ news) (h2 : its.size ≤ 1000) (f : Nat → Int)
    (turn : ∀ (i : Nat) v ys I oI C oC D m₂ h tk (E' : Value → Shared → Prop), i < its.size → its[i]? = some v → NsObj oC m₂ → m₂ x = some v → Fr h₀ L h m → News h₀ L h ((I, oI) :: (C, oC) :: (D, lst ys) :: news) → Off3 I C D news → ((@Ne Nat I C) ∧ (@Ne Nat I D) ∧ (@Ne Nat C D)) →
      wpAny (model prog w) A (eval elt (compEnvC scope cl C env)) (CompEnd h₀ L m { s₁ with heap := h, toks := tk } I oI C oC D (lst ys) (fun nw => (ax, PySem.W.listOf its kk) ∈ nw) (fun y nw' => nw' = news ∧ ∃ t, y = .int (f i) t)) E' { s₁ with heap := h, toks := tk })
    (fin : ∀ g ys, IntsAre ys ((List.range its.size).map f) → Fin { s₁ with heap := g } ys news) : CGoal prog w A h₀ L m env elt x scope cl Fin (.ref ax) s₁ := by
  refine ⟨_, its.size, _, news, src_list hh N hm, (by rw [PySem.sizeLine_eq]; omega), F, N, hm, fun g => ?_⟩
  refine cgoal_rest (fun i ys nw => nw = news ∧ IntsAre ys ((List.range i).map f)) ⟨rfl, .nil⟩ ?_ (fun ys nw h => h.1 ▸ fin g ys h.2)
  rintro i v ys nw I oI C oC D m₂ h tk E' hi hv ⟨rfl, hys⟩ hC hx F' N' off ne
  refine wpAny_mono (turn i v ys I oI C oC D m₂ h tk E' hi hv hC hx F' N' off ne) (fun y s₂ hq => ?_) fun _ _ x => x
  obtain ⟨h', tk', nw', e, F'', N'', off', hS, rfl, tb, rfl⟩ := hq
  refine ⟨h', tk', _, e, F'', N'', off', hS, rfl, ?_⟩
  rw [List.range_succ, List.map_append]
  exact hys.append (.cons _ _ .nil)
end
end Mine
end
section
namespace Mine
section
variable {prog : Program} {w : World} {A : Around} {E : Value → Shared → Prop} {s : Shared}
theorem eqAt_bytes (b c : Array UInt8) (t u : Tok) : PySem.SeqAt.EqAt A s (.bytes b t) (.bytes c u) (decide (b.toList = c.toList)) := fun prog w E Q h => PySem.W.eqBool_bytes h
theorem tup_eqK {a b : Addr} {x y : Array UInt8} {i j : Int} {ti tj tx ty : Tok} {Q : Value → Shared → Prop} (ha : s.heap.IsTuple a #[.int i ti, .bytes x tx]) (hb : s.heap.IsTuple b #[.int j tj, .bytes y ty]) (hi : i = j) (hx : x.toList = y.toList)
    (hu : A.units < cLine) (h : Q (.bool true) s) : wpAny (model prog w) A (compareOp .Eq (.ref a) (.ref b)) Q E s := by
  refine PySem.SeqAt.RcAt.tuples (e := fun _ => true) ha hb hu (fun k h1 h2 => ?_) prog w E Q h
  match k, h1, h2 with
  | 0, _, _ =>
    subst hi
    have := PySem.SeqAt.EqAt.int_int (A := A.in1) (s := s) i ti i tj
    simpa using this
  | 1, _, _ =>
    have := eqAt_bytes (A := A.in1) (s := s) x y tx ty
    rw [decide_eq_true hx] at this
    exact this
end
end Mine
end
section
local macro_rules | `(tactic| walk_at "no key of the walk") => `(tactic| fail "no line")
local macro_rules | `(tactic| walk_at "no key of the walk") => `(tactic| fail "no line")
local macro_rules | `(tactic| walk_at "no key of the walk") => `(tactic| fail "no line")
local macro_rules | `(tactic| walk_at "no key of the walk") => `(tactic| fail "no line")
namespace Mine
section
local macro_rules | `(tactic| k_ne) => `(tactic| (refine neN ?_; (try dsimp only); first | assumption | (refine Ne.symm ?_; assumption)))
local macro_rules | `(tactic| walk_at "compareOp Eq ref ref") => `(tactic| (k_here; (with_reducible show wpAny _ _ (compareOp CmpOp.Eq (Value.ref _) (Value.ref _)) _ _ _); refine' tup_eqK ?t1 ?t2 ?t3 ?t4 ?t5 ?_; (case t1 => exact News.isTup (by k_asm) (by k_mem)); (case t2 => exact News.isTup (by k_asm) (by k_mem)); (case t3 => assumption); (case t4 => assumption); (case t5 => (refine Nat.lt_of_le_of_lt (Nat.le_add_right _ 64) ?_; units_room))))
local macro_rules | `(tactic| walk_at "call builtin:list.index") => `(tactic| (k_here; (with_reducible show wpAny _ _ (PySem.call (Value.builtin _) [Value.ref _, Value.int _ _]) _ _ _); k_dflt (refine' index_ints ?l ?i ?z ?k ?_; (case l => is_list); (case i => assumption); (case z => omega); (case k => assumption)); intro ix9 tx9 tkx9 hx9 hx0 hx1; (try dsimp only); (try k_fold)))
local macro_rules | `(tactic| walk_at "call ref") => `(tactic| (k_here; first | with_reducible refine heldAt 142 ?_ | with_reducible refine heldAt 83 ?_ | with_reducible refine heldAt 137 ?_ | with_reducible refine heldAt 104 ?_ | with_reducible refine heldAt 130 ?_))
local macro_rules | `(tactic| walk_at "subscriptTail Name Name ref int") => `(tactic| (k_here; (with_reducible show wpAny _ _ (subscriptTail _ _ (Value.ref _) (Value.int _ _)) _ _ _); (with_unfolding_all refine' item_litK ?k1 ?k2 ?k3 ?k4 ?_ ?k6; (case k1 => is_list); (case k2 => omega); (case k3 => omega); (case k4 => assumption); (case k6 => with_unfolding_all rfl); k_whole)))
local macro_rules | `(tactic| walk_at "exec Assign cons ListComp") => `(tactic| (k_here; k_dflt (refine assignComp_S (by k_asm) (by rfl) (by with_unfolding_all rfl) (by with_unfolding_all rfl) (by decide) (by rfl) (by decide) (by rfl) (by rfl) (by rfl) ?_)))
local macro_rules | `(tactic| walk_at "call type:bytes") => `(tactic| (k_here; (with_reducible show wpAny _ _ (PySem.call (Value.type "bytes") [Value.int _ _]) _ _ _); refine call_bytes_int (by omega) (by rw [PySem.sizeLine_eq]; omega) (by omega) fun tb kb => ?_))
local macro_rules | `(tactic| walk_at "eval ListComp") => `(tactic| (k_here; k_dflt (refine listComp_S (by k_asm) (by with_unfolding_all rfl) (by decide) (by rfl) (by decide) (by rfl) ?_)))
local macro_rules | `(tactic| walk_at "eval Call Name") => `(tactic| (k_here; (fail_if_success (with_reducible show wpAny _ _ (eval (Expr.Call (Expr.Name "range" _) _ _ _) _) _ _ _)); with_reducible refine Call_ ?_))
local macro_rules | `(tactic| k_all) => `(tactic| first | assumption | (refine ne_next (by assumption) ?_; omega))

set_option maxHeartbeats 8000000 in
theorem rows_callN (w : World) (src : Addr) (a b : Int) (ta tb : Tok) (n : Nat) (news : List (Addr × Obj)) (hne : ∀ p ∈ news, p.1 ≠ src) (h0 : 0 ≤ a) (hb0 : 0 ≤ b) (hb : b < 2147483647) :
    ToldN w 154 6 256 [.ref src] ((src, poolObj a b ta tb n) :: news) (fun h₀ L m s Q E => ∀ h' tk', Fr h₀ L h' m → Q (.bool true) { s with heap := h', toks := tk' }) := by
  w_top off
  dsimp only [ToldN, KF, VW, LO, PP]
  k_fill
  intros
  rename_i hret
  refine wpN_call ?_
  (first | k_dflt (refine' intoN ?k1 ?k2 ?k3 ?k4 ?k5 ?kA ?kF ?kK ?k6 ?k7 ?k8 ?k9 ?kB ?kD ?_ ?c2 ?c3 ?c4; (case kA => exact rfl); (case kF => exact rfl); (case kK => first | exact rfl | assumption); (case k1 => k_asm); (case k2 => k_asm); (case k3 => k_asm); (case k4 => k_asm); (case k5 => k_asm); (case k6 => k_is); (case k7 => k_is); (case k8 => ktr_room); (case k9 => first | exact BindsTo.of_eq rfl | exact binds_K (by k_in) rfl (by k_is) rfl rfl rfl); (case kB => exact rfl); (case kD => decide +kernel); (case c2 => exact rfl); (case c3 => exact rfl); (case c4 => exact rfl); k_whole; intro g' L' h' tk' cells' FG' F' N' Y' B' X' T' l1; k_cells Y'; (try simp only [List.cons_append, List.nil_append] at N'); (try dsimp only); (try k_lift B'); (try k_fold)) | fail "not entered")
  have hsrc : @LT.lt Nat _ src L' := l1 _ (.head _)
  have hnl : ∀ p ∈ news, p.1 < L' := fun p hp => l1 p (.tail _ hp)
  refine wpN_execs_A ?_
  (k_steps; repeat (any_goals ((refine unheld ?_; first | ((with_reducible show wpAny _ _ (PySem.call (Value.ref 130) [Value.ref _]) _ _ _); k_dflt (refine' octet_call _ _ _ _ _ _ _ _ _ ?zUz ?zh0z ?zhb0z ?zhbz _ _ _ _ _ _ _ _ _ _ _ _ _ _ _ _ _ _ _ _ ?zkBz ?zkFz ?zkXz ?zkNz ?zkTz ?zkkz ?zkdz ?zkuz ?_; (case zkBz => k_asm); (case zkFz => k_asm); (case zkXz => k_asm); (case zkNz => k_asm); (case zkTz => k_asm); (case zkkz => first | exact rfl | assumption); (case zkdz => ktr_room); (case zkuz => ktr_units); (case zUz => k_updF); (case zh0z => assumption); (case zhb0z => assumption); (case zhbz => assumption)); intro zr9z zt9z zh9z ztk9z za9z zb9z zta9z ztb9z zhr0z zhr1z zha0z zhb0z zhb1z zF9z zN9z; (try dsimp only at zN9z); (try dsimp only); (try k_fold); (try k_sweep)) | ((with_reducible show wpAny _ _ (PySem.call (Value.ref 104) [Value.ref _, Value.int _ _]) _ _ _); k_dflt (refine' take_use _ _ _ _ _ _ _ _ _ _ _ ?zUz ?zh0z ?zhb0z ?zhbz ?zhtz ?zhttz _ _ _ _ _ _ _ _ _ _ _ _ _ _ _ _ _ _ _ _ ?zkBz ?zkFz ?zkXz ?zkNz ?zkTz ?zkkz ?zkdz ?zkuz ?_; (case zkBz => k_asm); (case zkFz => k_asm); (case zkXz => k_asm); (case zkNz => k_asm); (case zkTz => k_asm); (case zkkz => first | exact rfl | assumption); (case zkdz => ktr_room); (case zkuz => ktr_units); (case zUz => k_updF); (case zh0z => assumption); (case zhb0z => assumption); (case zhbz => assumption); (case zhtz => decide); (case zhttz => decide)); intro zr9z zt9z zh9z ztk9z za9z zb9z zta9z ztb9z zhr0z zhr1z zha0z zhb0z zhb1z zF9z zN9z; (try dsimp only at zN9z); (try dsimp only); (try k_fold); (try k_sweep)) | ((with_reducible show wpAny _ _ (PySem.call (Value.ref 137) [Value.int _ _, Value.bytes _ _, Value.bytes _ _, Value.int _ _]) _ _ _); k_dflt (refine' due_call _ _ _ _ _ _ _ _ _ _ _ _ ?zhbIz ?zhcIz ?zhbz ?zhcz ?zh0z ?zh1z ?zhkz ?zhk5z _ _ _ _ _ _ _ _ _ _ _ _ _ _ _ _ _ _ _ _ ?zkBz ?zkFz ?zkXz ?zkNz ?zkTz ?zkkz ?zkdz ?zkuz ?_; (case zkBz => k_asm); (case zkFz => k_asm); (case zkXz => k_asm); (case zkNz => k_asm); (case zkTz => k_asm); (case zkkz => first | exact rfl | assumption); (case zkdz => ktr_room); (case zkuz => ktr_units); (case zhbIz => assumption); (case zhcIz => assumption); (case zhbz => omega); (case zhcz => omega); (case zh0z => omega); (case zh1z => omega); (case zhkz => omega); (case zhk5z => omega)); intro zb9z zt9z zh9z ztk9z zhb9z zF9z zN9z; (try dsimp only); (try k_fold); (try k_sweep)) | ((with_reducible show wpAny _ _ (PySem.call (Value.ref 83) [Value.bytes _ _]) _ _ _); k_dflt (refine' weight_call _ _ _ _ ?zhbz _ _ _ _ _ _ _ _ _ _ _ _ _ _ _ _ _ _ _ _ ?zkBz ?zkFz ?zkXz ?zkNz ?zkTz ?zkkz ?zkdz ?zkuz ?_; (case zkBz => k_asm); (case zkFz => k_asm); (case zkXz => k_asm); (case zkNz => k_asm); (case zkTz => k_asm); (case zkkz => first | exact rfl | assumption); (case zkdz => ktr_room); (case zkuz => ktr_units); (case zhbz => assumption)); intro zt9z zh9z ztk9z zF9z zN9z; (try dsimp only); (try k_fold); (try k_sweep)) | ((with_reducible show wpAny _ _ (PySem.call (Value.ref 142) [Value.bytes _ _]) _ _ _); k_dflt (refine' lweight_call _ _ _ _ ?zhbz _ _ _ _ _ _ _ _ _ _ _ _ _ _ _ _ _ _ _ _ ?zkBz ?zkFz ?zkXz ?zkNz ?zkTz ?zkkz ?zkdz ?zkuz ?_; (case zkBz => k_asm); (case zkFz => k_asm); (case zkXz => k_asm); (case zkNz => k_asm); (case zkTz => k_asm); (case zkkz => first | exact rfl | assumption); (case zkdz => ktr_room); (case zkuz => ktr_units); (case zhbz => assumption)); intro zt9z zh9z ztk9z zF9z zN9z; (try dsimp only); (try k_fold); (try k_sweep))); (try k_steps))))
  refine wpN_execs_A ?_
  (k_steps; repeat (any_goals ((refine unheld ?_; first | ((with_reducible show wpAny _ _ (PySem.call (Value.ref 130) [Value.ref _]) _ _ _); k_dflt (refine' octet_call _ _ _ _ _ _ _ _ _ ?zUz ?zh0z ?zhb0z ?zhbz _ _ _ _ _ _ _ _ _ _ _ _ _ _ _ _ _ _ _ _ ?zkBz ?zkFz ?zkXz ?zkNz ?zkTz ?zkkz ?zkdz ?zkuz ?_; (case zkBz => k_asm); (case zkFz => k_asm); (case zkXz => k_asm); (case zkNz => k_asm); (case zkTz => k_asm); (case zkkz => first | exact rfl | assumption); (case zkdz => ktr_room); (case zkuz => ktr_units); (case zUz => k_updF); (case zh0z => assumption); (case zhb0z => assumption); (case zhbz => assumption)); intro zr9z zt9z zh9z ztk9z za9z zb9z zta9z ztb9z zhr0z zhr1z zha0z zhb0z zhb1z zF9z zN9z; (try dsimp only at zN9z); (try dsimp only); (try k_fold); (try k_sweep)) | ((with_reducible show wpAny _ _ (PySem.call (Value.ref 104) [Value.ref _, Value.int _ _]) _ _ _); k_dflt (refine' take_use _ _ _ _ _ _ _ _ _ _ _ ?zUz ?zh0z ?zhb0z ?zhbz ?zhtz ?zhttz _ _ _ _ _ _ _ _ _ _ _ _ _ _ _ _ _ _ _ _ ?zkBz ?zkFz ?zkXz ?zkNz ?zkTz ?zkkz ?zkdz ?zkuz ?_; (case zkBz => k_asm); (case zkFz => k_asm); (case zkXz => k_asm); (case zkNz => k_asm); (case zkTz => k_asm); (case zkkz => first | exact rfl | assumption); (case zkdz => ktr_room); (case zkuz => ktr_units); (case zUz => k_updF); (case zh0z => assumption); (case zhb0z => assumption); (case zhbz => assumption); (case zhtz => decide); (case zhttz => decide)); intro zr9z zt9z zh9z ztk9z za9z zb9z zta9z ztb9z zhr0z zhr1z zha0z zhb0z zhb1z zF9z zN9z; (try dsimp only at zN9z); (try dsimp only); (try k_fold); (try k_sweep)) | ((with_reducible show wpAny _ _ (PySem.call (Value.ref 137) [Value.int _ _, Value.bytes _ _, Value.bytes _ _, Value.int _ _]) _ _ _); k_dflt (refine' due_call _ _ _ _ _ _ _ _ _ _ _ _ ?zhbIz ?zhcIz ?zhbz ?zhcz ?zh0z ?zh1z ?zhkz ?zhk5z _ _ _ _ _ _ _ _ _ _ _ _ _ _ _ _ _ _ _ _ ?zkBz ?zkFz ?zkXz ?zkNz ?zkTz ?zkkz ?zkdz ?zkuz ?_; (case zkBz => k_asm); (case zkFz => k_asm); (case zkXz => k_asm); (case zkNz => k_asm); (case zkTz => k_asm); (case zkkz => first | exact rfl | assumption); (case zkdz => ktr_room); (case zkuz => ktr_units); (case zhbIz => assumption); (case zhcIz => assumption); (case zhbz => omega); (case zhcz => omega); (case zh0z => omega); (case zh1z => omega); (case zhkz => omega); (case zhk5z => omega)); intro zb9z zt9z zh9z ztk9z zhb9z zF9z zN9z; (try dsimp only); (try k_fold); (try k_sweep)) | ((with_reducible show wpAny _ _ (PySem.call (Value.ref 83) [Value.bytes _ _]) _ _ _); k_dflt (refine' weight_call _ _ _ _ ?zhbz _ _ _ _ _ _ _ _ _ _ _ _ _ _ _ _ _ _ _ _ ?zkBz ?zkFz ?zkXz ?zkNz ?zkTz ?zkkz ?zkdz ?zkuz ?_; (case zkBz => k_asm); (case zkFz => k_asm); (case zkXz => k_asm); (case zkNz => k_asm); (case zkTz => k_asm); (case zkkz => first | exact rfl | assumption); (case zkdz => ktr_room); (case zkuz => ktr_units); (case zhbz => assumption)); intro zt9z zh9z ztk9z zF9z zN9z; (try dsimp only); (try k_fold); (try k_sweep)) | ((with_reducible show wpAny _ _ (PySem.call (Value.ref 142) [Value.bytes _ _]) _ _ _); k_dflt (refine' lweight_call _ _ _ _ ?zhbz _ _ _ _ _ _ _ _ _ _ _ _ _ _ _ _ _ _ _ _ ?zkBz ?zkFz ?zkXz ?zkNz ?zkTz ?zkkz ?zkdz ?zkuz ?_; (case zkBz => k_asm); (case zkFz => k_asm); (case zkXz => k_asm); (case zkNz => k_asm); (case zkTz => k_asm); (case zkkz => first | exact rfl | assumption); (case zkdz => ktr_room); (case zkuz => ktr_units); (case zhbz => assumption)); intro zt9z zh9z ztk9z zF9z zN9z; (try dsimp only); (try k_fold); (try k_sweep))); (try k_steps))))
  refine octets_goal (src := src) rfl (by assumption) (by omega) (by omega) (by k_asm) (by k_asm) (by k_updF) (by assumption) (by assumption) (by assumption) (fun i t' a b ta tb ys I oI C oC D m₂ h tk E' ha0 hb0 hb1 hC hx F N off ne => ?_) (fun g ys ks a b ta tb hys hlen hks ha0 hb0 hb1 => ?_)
  · clear hret
    (try dsimp only at N off)
    have off2 := off
    simp only [LCg.Off3] at off2
    repeat (have h9 := off2.1.1; have h9 := off2.1.2.1; have h9 := off2.1.2.2; replace off2 := off2.2)
    have h9 := ne.1; have h9 := ne.2.1; have h9 := ne.2.2; clear ne
    refine postA fun Q8 E8 hQ8 hE8 => ?_
    (k_steps; repeat (any_goals ((refine unheld ?_; first | ((with_reducible show wpAny _ _ (PySem.call (Value.ref 130) [Value.ref _]) _ _ _); k_dflt (refine' octet_call _ _ _ _ _ _ _ _ _ ?zUz ?zh0z ?zhb0z ?zhbz _ _ _ _ _ _ _ _ _ _ _ _ _ _ _ _ _ _ _ _ ?zkBz ?zkFz ?zkXz ?zkNz ?zkTz ?zkkz ?zkdz ?zkuz ?_; (case zkBz => k_asm); (case zkFz => k_asm); (case zkXz => k_asm); (case zkNz => k_asm); (case zkTz => k_asm); (case zkkz => first | exact rfl | assumption); (case zkdz => ktr_room); (case zkuz => ktr_units); (case zUz => k_updF); (case zh0z => assumption); (case zhb0z => assumption); (case zhbz => assumption)); intro zr9z zt9z zh9z ztk9z za9z zb9z zta9z ztb9z zhr0z zhr1z zha0z zhb0z zhb1z zF9z zN9z; (try dsimp only at zN9z); (try dsimp only); (try k_fold); (try k_sweep)) | ((with_reducible show wpAny _ _ (PySem.call (Value.ref 104) [Value.ref _, Value.int _ _]) _ _ _); k_dflt (refine' take_use _ _ _ _ _ _ _ _ _ _ _ ?zUz ?zh0z ?zhb0z ?zhbz ?zhtz ?zhttz _ _ _ _ _ _ _ _ _ _ _ _ _ _ _ _ _ _ _ _ ?zkBz ?zkFz ?zkXz ?zkNz ?zkTz ?zkkz ?zkdz ?zkuz ?_; (case zkBz => k_asm); (case zkFz => k_asm); (case zkXz => k_asm); (case zkNz => k_asm); (case zkTz => k_asm); (case zkkz => first | exact rfl | assumption); (case zkdz => ktr_room); (case zkuz => ktr_units); (case zUz => k_updF); (case zh0z => assumption); (case zhb0z => assumption); (case zhbz => assumption); (case zhtz => decide); (case zhttz => decide)); intro zr9z zt9z zh9z ztk9z za9z zb9z zta9z ztb9z zhr0z zhr1z zha0z zhb0z zhb1z zF9z zN9z; (try dsimp only at zN9z); (try dsimp only); (try k_fold); (try k_sweep)) | ((with_reducible show wpAny _ _ (PySem.call (Value.ref 137) [Value.int _ _, Value.bytes _ _, Value.bytes _ _, Value.int _ _]) _ _ _); k_dflt (refine' due_call _ _ _ _ _ _ _ _ _ _ _ _ ?zhbIz ?zhcIz ?zhbz ?zhcz ?zh0z ?zh1z ?zhkz ?zhk5z _ _ _ _ _ _ _ _ _ _ _ _ _ _ _ _ _ _ _ _ ?zkBz ?zkFz ?zkXz ?zkNz ?zkTz ?zkkz ?zkdz ?zkuz ?_; (case zkBz => k_asm); (case zkFz => k_asm); (case zkXz => k_asm); (case zkNz => k_asm); (case zkTz => k_asm); (case zkkz => first | exact rfl | assumption); (case zkdz => ktr_room); (case zkuz => ktr_units); (case zhbIz => assumption); (case zhcIz => assumption); (case zhbz => omega); (case zhcz => omega); (case zh0z => omega); (case zh1z => omega); (case zhkz => omega); (case zhk5z => omega)); intro zb9z zt9z zh9z ztk9z zhb9z zF9z zN9z; (try dsimp only); (try k_fold); (try k_sweep)) | ((with_reducible show wpAny _ _ (PySem.call (Value.ref 83) [Value.bytes _ _]) _ _ _); k_dflt (refine' weight_call _ _ _ _ ?zhbz _ _ _ _ _ _ _ _ _ _ _ _ _ _ _ _ _ _ _ _ ?zkBz ?zkFz ?zkXz ?zkNz ?zkTz ?zkkz ?zkdz ?zkuz ?_; (case zkBz => k_asm); (case zkFz => k_asm); (case zkXz => k_asm); (case zkNz => k_asm); (case zkTz => k_asm); (case zkkz => first | exact rfl | assumption); (case zkdz => ktr_room); (case zkuz => ktr_units); (case zhbz => assumption)); intro zt9z zh9z ztk9z zF9z zN9z; (try dsimp only); (try k_fold); (try k_sweep)) | ((with_reducible show wpAny _ _ (PySem.call (Value.ref 142) [Value.bytes _ _]) _ _ _); k_dflt (refine' lweight_call _ _ _ _ ?zhbz _ _ _ _ _ _ _ _ _ _ _ _ _ _ _ _ _ _ _ _ ?zkBz ?zkFz ?zkXz ?zkNz ?zkTz ?zkkz ?zkdz ?zkuz ?_; (case zkBz => k_asm); (case zkFz => k_asm); (case zkXz => k_asm); (case zkNz => k_asm); (case zkTz => k_asm); (case zkkz => first | exact rfl | assumption); (case zkdz => ktr_room); (case zkuz => ktr_units); (case zhbz => assumption)); intro zt9z zh9z ztk9z zF9z zN9z; (try dsimp only); (try k_fold); (try k_sweep))); (try k_steps))))
    rename News _ _ _ _ => kN9
    rename Fr _ _ _ _ => kF9
    refine hQ8 _ _ (LCg.CompEnd.intro kF9 kN9 _ (fun p hp => hp) (off3_same off rfl) True.intro ⟨_, _, _, _, _, _, rfl, (by assumption), (by assumption), (by assumption), (by assumption), (by assumption), rfl⟩)
  · unfold LCg.FinE
    intro D h tk F N off
    (try dsimp only at N off)
    have off2 := off
    simp only [LCg.Off1] at off2
    repeat (have h9 := off2.1; replace off2 := off2.2)
    (k_steps; repeat (any_goals ((refine unheld ?_; first | ((with_reducible show wpAny _ _ (PySem.call (Value.ref 130) [Value.ref _]) _ _ _); k_dflt (refine' octet_call _ _ _ _ _ _ _ _ _ ?zUz ?zh0z ?zhb0z ?zhbz _ _ _ _ _ _ _ _ _ _ _ _ _ _ _ _ _ _ _ _ ?zkBz ?zkFz ?zkXz ?zkNz ?zkTz ?zkkz ?zkdz ?zkuz ?_; (case zkBz => k_asm); (case zkFz => k_asm); (case zkXz => k_asm); (case zkNz => k_asm); (case zkTz => k_asm); (case zkkz => first | exact rfl | assumption); (case zkdz => ktr_room); (case zkuz => ktr_units); (case zUz => k_updF); (case zh0z => assumption); (case zhb0z => assumption); (case zhbz => assumption)); intro zr9z zt9z zh9z ztk9z za9z zb9z zta9z ztb9z zhr0z zhr1z zha0z zhb0z zhb1z zF9z zN9z; (try dsimp only at zN9z); (try dsimp only); (try k_fold); (try k_sweep)) | ((with_reducible show wpAny _ _ (PySem.call (Value.ref 104) [Value.ref _, Value.int _ _]) _ _ _); k_dflt (refine' take_use _ _ _ _ _ _ _ _ _ _ _ ?zUz ?zh0z ?zhb0z ?zhbz ?zhtz ?zhttz _ _ _ _ _ _ _ _ _ _ _ _ _ _ _ _ _ _ _ _ ?zkBz ?zkFz ?zkXz ?zkNz ?zkTz ?zkkz ?zkdz ?zkuz ?_; (case zkBz => k_asm); (case zkFz => k_asm); (case zkXz => k_asm); (case zkNz => k_asm); (case zkTz => k_asm); (case zkkz => first | exact rfl | assumption); (case zkdz => ktr_room); (case zkuz => ktr_units); (case zUz => k_updF); (case zh0z => assumption); (case zhb0z => assumption); (case zhbz => assumption); (case zhtz => decide); (case zhttz => decide)); intro zr9z zt9z zh9z ztk9z za9z zb9z zta9z ztb9z zhr0z zhr1z zha0z zhb0z zhb1z zF9z zN9z; (try dsimp only at zN9z); (try dsimp only); (try k_fold); (try k_sweep)) | ((with_reducible show wpAny _ _ (PySem.call (Value.ref 137) [Value.int _ _, Value.bytes _ _, Value.bytes _ _, Value.int _ _]) _ _ _); k_dflt (refine' due_call _ _ _ _ _ _ _ _ _ _ _ _ ?zhbIz ?zhcIz ?zhbz ?zhcz ?zh0z ?zh1z ?zhkz ?zhk5z _ _ _ _ _ _ _ _ _ _ _ _ _ _ _ _ _ _ _ _ ?zkBz ?zkFz ?zkXz ?zkNz ?zkTz ?zkkz ?zkdz ?zkuz ?_; (case zkBz => k_asm); (case zkFz => k_asm); (case zkXz => k_asm); (case zkNz => k_asm); (case zkTz => k_asm); (case zkkz => first | exact rfl | assumption); (case zkdz => ktr_room); (case zkuz => ktr_units); (case zhbIz => assumption); (case zhcIz => assumption); (case zhbz => omega); (case zhcz => omega); (case zh0z => omega); (case zh1z => omega); (case zhkz => omega); (case zhk5z => omega)); intro zb9z zt9z zh9z ztk9z zhb9z zF9z zN9z; (try dsimp only); (try k_fold); (try k_sweep)) | ((with_reducible show wpAny _ _ (PySem.call (Value.ref 83) [Value.bytes _ _]) _ _ _); k_dflt (refine' weight_call _ _ _ _ ?zhbz _ _ _ _ _ _ _ _ _ _ _ _ _ _ _ _ _ _ _ _ ?zkBz ?zkFz ?zkXz ?zkNz ?zkTz ?zkkz ?zkdz ?zkuz ?_; (case zkBz => k_asm); (case zkFz => k_asm); (case zkXz => k_asm); (case zkNz => k_asm); (case zkTz => k_asm); (case zkkz => first | exact rfl | assumption); (case zkdz => ktr_room); (case zkuz => ktr_units); (case zhbz => assumption)); intro zt9z zh9z ztk9z zF9z zN9z; (try dsimp only); (try k_fold); (try k_sweep)) | ((with_reducible show wpAny _ _ (PySem.call (Value.ref 142) [Value.bytes _ _]) _ _ _); k_dflt (refine' lweight_call _ _ _ _ ?zhbz _ _ _ _ _ _ _ _ _ _ _ _ _ _ _ _ _ _ _ _ ?zkBz ?zkFz ?zkXz ?zkNz ?zkTz ?zkkz ?zkdz ?zkuz ?_; (case zkBz => k_asm); (case zkFz => k_asm); (case zkXz => k_asm); (case zkNz => k_asm); (case zkTz => k_asm); (case zkkz => first | exact rfl | assumption); (case zkdz => ktr_room); (case zkuz => ktr_units); (case zhbz => assumption)); intro zt9z zh9z ztk9z zF9z zN9z; (try dsimp only); (try k_fold); (try k_sweep))); (try k_steps))))
    have hmk := KBa.ints_make hks
    rename News _ _ _ _ => kN9
    rename Fr _ _ _ _ => kF9
    refine rows_names (fun p hp => kN9 p (.tail _ hp)) (by assumption) (by assumption) (by assumption) (by assumption) hmk (by omega) hlen (by omega) hks fun oA oR oS oC bR tR tst st row dA dR dS dC hR hst1 hst3 hmany hl1 hl6 hrow N8 => ?_
    clear kN9 hmk hks hys off off2
    refine stmtJoin kF9 (fun s m s' => ∃ h' tk' oA' bA tA ahead a b ta tb, s' = { s with heap := h', toks := tk' } ∧ KBw.bInts bA = ahead ∧ ahead.length = row.length ∧ (∀ q ∈ ahead, 0 ≤ q ∧ q < 256) ∧ oA'.data = .cell (some (.bytes bA tA)) ∧ Fr g' L' h' m ∧
      News g' L' h' ((L' + 1 + 1 + 1 + 1, oA') :: (L' + 1 + 1 + 1, oR) :: (L' + 1 + 1, oS) :: (L' + 1, oC) :: (src, poolObj a b ta tb n) :: news)) ?_ (fun s' hM => ?_)
    · clear hret
      (k_steps; repeat (any_goals ((refine unheld ?_; first | ((with_reducible show wpAny _ _ (PySem.call (Value.ref 130) [Value.ref _]) _ _ _); k_dflt (refine' octet_call _ _ _ _ _ _ _ _ _ ?zUz ?zh0z ?zhb0z ?zhbz _ _ _ _ _ _ _ _ _ _ _ _ _ _ _ _ _ _ _ _ ?zkBz ?zkFz ?zkXz ?zkNz ?zkTz ?zkkz ?zkdz ?zkuz ?_; (case zkBz => k_asm); (case zkFz => k_asm); (case zkXz => k_asm); (case zkNz => k_asm); (case zkTz => k_asm); (case zkkz => first | exact rfl | assumption); (case zkdz => ktr_room); (case zkuz => ktr_units); (case zUz => k_updF); (case zh0z => assumption); (case zhb0z => assumption); (case zhbz => assumption)); intro zr9z zt9z zh9z ztk9z za9z zb9z zta9z ztb9z zhr0z zhr1z zha0z zhb0z zhb1z zF9z zN9z; (try dsimp only at zN9z); (try dsimp only); (try k_fold); (try k_sweep)) | ((with_reducible show wpAny _ _ (PySem.call (Value.ref 104) [Value.ref _, Value.int _ _]) _ _ _); k_dflt (refine' take_use _ _ _ _ _ _ _ _ _ _ _ ?zUz ?zh0z ?zhb0z ?zhbz ?zhtz ?zhttz _ _ _ _ _ _ _ _ _ _ _ _ _ _ _ _ _ _ _ _ ?zkBz ?zkFz ?zkXz ?zkNz ?zkTz ?zkkz ?zkdz ?zkuz ?_; (case zkBz => k_asm); (case zkFz => k_asm); (case zkXz => k_asm); (case zkNz => k_asm); (case zkTz => k_asm); (case zkkz => first | exact rfl | assumption); (case zkdz => ktr_room); (case zkuz => ktr_units); (case zUz => k_updF); (case zh0z => assumption); (case zhb0z => assumption); (case zhbz => assumption); (case zhtz => decide); (case zhttz => decide)); intro zr9z zt9z zh9z ztk9z za9z zb9z zta9z ztb9z zhr0z zhr1z zha0z zhb0z zhb1z zF9z zN9z; (try dsimp only at zN9z); (try dsimp only); (try k_fold); (try k_sweep)) | ((with_reducible show wpAny _ _ (PySem.call (Value.ref 137) [Value.int _ _, Value.bytes _ _, Value.bytes _ _, Value.int _ _]) _ _ _); k_dflt (refine' due_call _ _ _ _ _ _ _ _ _ _ _ _ ?zhbIz ?zhcIz ?zhbz ?zhcz ?zh0z ?zh1z ?zhkz ?zhk5z _ _ _ _ _ _ _ _ _ _ _ _ _ _ _ _ _ _ _ _ ?zkBz ?zkFz ?zkXz ?zkNz ?zkTz ?zkkz ?zkdz ?zkuz ?_; (case zkBz => k_asm); (case zkFz => k_asm); (case zkXz => k_asm); (case zkNz => k_asm); (case zkTz => k_asm); (case zkkz => first | exact rfl | assumption); (case zkdz => ktr_room); (case zkuz => ktr_units); (case zhbIz => assumption); (case zhcIz => assumption); (case zhbz => omega); (case zhcz => omega); (case zh0z => omega); (case zh1z => omega); (case zhkz => omega); (case zhk5z => omega)); intro zb9z zt9z zh9z ztk9z zhb9z zF9z zN9z; (try dsimp only); (try k_fold); (try k_sweep)) | ((with_reducible show wpAny _ _ (PySem.call (Value.ref 83) [Value.bytes _ _]) _ _ _); k_dflt (refine' weight_call _ _ _ _ ?zhbz _ _ _ _ _ _ _ _ _ _ _ _ _ _ _ _ _ _ _ _ ?zkBz ?zkFz ?zkXz ?zkNz ?zkTz ?zkkz ?zkdz ?zkuz ?_; (case zkBz => k_asm); (case zkFz => k_asm); (case zkXz => k_asm); (case zkNz => k_asm); (case zkTz => k_asm); (case zkkz => first | exact rfl | assumption); (case zkdz => ktr_room); (case zkuz => ktr_units); (case zhbz => assumption)); intro zt9z zh9z ztk9z zF9z zN9z; (try dsimp only); (try k_fold); (try k_sweep)) | ((with_reducible show wpAny _ _ (PySem.call (Value.ref 142) [Value.bytes _ _]) _ _ _); k_dflt (refine' lweight_call _ _ _ _ ?zhbz _ _ _ _ _ _ _ _ _ _ _ _ _ _ _ _ _ _ _ _ ?zkBz ?zkFz ?zkXz ?zkNz ?zkTz ?zkkz ?zkdz ?zkuz ?_; (case zkBz => k_asm); (case zkFz => k_asm); (case zkXz => k_asm); (case zkNz => k_asm); (case zkTz => k_asm); (case zkkz => first | exact rfl | assumption); (case zkdz => ktr_room); (case zkuz => ktr_units); (case zhbz => assumption)); intro zt9z zh9z ztk9z zF9z zN9z; (try dsimp only); (try k_fold); (try k_sweep))); (try k_steps))))
      · refine octets_goal (src := src) rfl (by assumption) (by omega) (by omega) (by k_asm) (by k_asm) (by k_updF) (by assumption) (by assumption) (by assumption) (fun i t' a b ta tb ys I oI C oC D m₂ h tk E' ha0 hb0 hb1 hC hx F N off ne => ?_) (fun g ys ks a b ta tb hys hlen hks ha0 hb0 hb1 => ?_)
        · (try dsimp only at N off)
          have off2 := off
          simp only [LCg.Off3] at off2
          repeat (have h9 := off2.1.1; have h9 := off2.1.2.1; have h9 := off2.1.2.2; replace off2 := off2.2)
          have h9 := ne.1; have h9 := ne.2.1; have h9 := ne.2.2; clear ne
          refine postA fun Q8 E8 hQ8 hE8 => ?_
          (k_steps; repeat (any_goals ((refine unheld ?_; first | ((with_reducible show wpAny _ _ (PySem.call (Value.ref 130) [Value.ref _]) _ _ _); k_dflt (refine' octet_call _ _ _ _ _ _ _ _ _ ?zUz ?zh0z ?zhb0z ?zhbz _ _ _ _ _ _ _ _ _ _ _ _ _ _ _ _ _ _ _ _ ?zkBz ?zkFz ?zkXz ?zkNz ?zkTz ?zkkz ?zkdz ?zkuz ?_; (case zkBz => k_asm); (case zkFz => k_asm); (case zkXz => k_asm); (case zkNz => k_asm); (case zkTz => k_asm); (case zkkz => first | exact rfl | assumption); (case zkdz => ktr_room); (case zkuz => ktr_units); (case zUz => k_updF); (case zh0z => assumption); (case zhb0z => assumption); (case zhbz => assumption)); intro zr9z zt9z zh9z ztk9z za9z zb9z zta9z ztb9z zhr0z zhr1z zha0z zhb0z zhb1z zF9z zN9z; (try dsimp only at zN9z); (try dsimp only); (try k_fold); (try k_sweep)) | ((with_reducible show wpAny _ _ (PySem.call (Value.ref 104) [Value.ref _, Value.int _ _]) _ _ _); k_dflt (refine' take_use _ _ _ _ _ _ _ _ _ _ _ ?zUz ?zh0z ?zhb0z ?zhbz ?zhtz ?zhttz _ _ _ _ _ _ _ _ _ _ _ _ _ _ _ _ _ _ _ _ ?zkBz ?zkFz ?zkXz ?zkNz ?zkTz ?zkkz ?zkdz ?zkuz ?_; (case zkBz => k_asm); (case zkFz => k_asm); (case zkXz => k_asm); (case zkNz => k_asm); (case zkTz => k_asm); (case zkkz => first | exact rfl | assumption); (case zkdz => ktr_room); (case zkuz => ktr_units); (case zUz => k_updF); (case zh0z => assumption); (case zhb0z => assumption); (case zhbz => assumption); (case zhtz => decide); (case zhttz => decide)); intro zr9z zt9z zh9z ztk9z za9z zb9z zta9z ztb9z zhr0z zhr1z zha0z zhb0z zhb1z zF9z zN9z; (try dsimp only at zN9z); (try dsimp only); (try k_fold); (try k_sweep)) | ((with_reducible show wpAny _ _ (PySem.call (Value.ref 137) [Value.int _ _, Value.bytes _ _, Value.bytes _ _, Value.int _ _]) _ _ _); k_dflt (refine' due_call _ _ _ _ _ _ _ _ _ _ _ _ ?zhbIz ?zhcIz ?zhbz ?zhcz ?zh0z ?zh1z ?zhkz ?zhk5z _ _ _ _ _ _ _ _ _ _ _ _ _ _ _ _ _ _ _ _ ?zkBz ?zkFz ?zkXz ?zkNz ?zkTz ?zkkz ?zkdz ?zkuz ?_; (case zkBz => k_asm); (case zkFz => k_asm); (case zkXz => k_asm); (case zkNz => k_asm); (case zkTz => k_asm); (case zkkz => first | exact rfl | assumption); (case zkdz => ktr_room); (case zkuz => ktr_units); (case zhbIz => assumption); (case zhcIz => assumption); (case zhbz => omega); (case zhcz => omega); (case zh0z => omega); (case zh1z => omega); (case zhkz => omega); (case zhk5z => omega)); intro zb9z zt9z zh9z ztk9z zhb9z zF9z zN9z; (try dsimp only); (try k_fold); (try k_sweep)) | ((with_reducible show wpAny _ _ (PySem.call (Value.ref 83) [Value.bytes _ _]) _ _ _); k_dflt (refine' weight_call _ _ _ _ ?zhbz _ _ _ _ _ _ _ _ _ _ _ _ _ _ _ _ _ _ _ _ ?zkBz ?zkFz ?zkXz ?zkNz ?zkTz ?zkkz ?zkdz ?zkuz ?_; (case zkBz => k_asm); (case zkFz => k_asm); (case zkXz => k_asm); (case zkNz => k_asm); (case zkTz => k_asm); (case zkkz => first | exact rfl | assumption); (case zkdz => ktr_room); (case zkuz => ktr_units); (case zhbz => assumption)); intro zt9z zh9z ztk9z zF9z zN9z; (try dsimp only); (try k_fold); (try k_sweep)) | ((with_reducible show wpAny _ _ (PySem.call (Value.ref 142) [Value.bytes _ _]) _ _ _); k_dflt (refine' lweight_call _ _ _ _ ?zhbz _ _ _ _ _ _ _ _ _ _ _ _ _ _ _ _ _ _ _ _ ?zkBz ?zkFz ?zkXz ?zkNz ?zkTz ?zkkz ?zkdz ?zkuz ?_; (case zkBz => k_asm); (case zkFz => k_asm); (case zkXz => k_asm); (case zkNz => k_asm); (case zkTz => k_asm); (case zkkz => first | exact rfl | assumption); (case zkdz => ktr_room); (case zkuz => ktr_units); (case zhbz => assumption)); intro zt9z zh9z ztk9z zF9z zN9z; (try dsimp only); (try k_fold); (try k_sweep))); (try k_steps))))
          rename News _ _ _ _ => kN9
          rename Fr _ _ _ _ => kF9
          refine hQ8 _ _ (LCg.CompEnd.intro kF9 kN9 _ (fun p hp => hp) (off3_same off rfl) True.intro ⟨_, _, _, _, _, _, rfl, (by assumption), (by assumption), (by assumption), (by assumption), (by assumption), rfl⟩)
        · unfold LCg.FinE
          intro D h tk F N off
          (try dsimp only at N off)
          have off2 := off
          simp only [LCg.Off1] at off2
          repeat (have h9 := off2.1; replace off2 := off2.2)
          (k_steps; repeat (any_goals ((refine unheld ?_; first | ((with_reducible show wpAny _ _ (PySem.call (Value.ref 130) [Value.ref _]) _ _ _); k_dflt (refine' octet_call _ _ _ _ _ _ _ _ _ ?zUz ?zh0z ?zhb0z ?zhbz _ _ _ _ _ _ _ _ _ _ _ _ _ _ _ _ _ _ _ _ ?zkBz ?zkFz ?zkXz ?zkNz ?zkTz ?zkkz ?zkdz ?zkuz ?_; (case zkBz => k_asm); (case zkFz => k_asm); (case zkXz => k_asm); (case zkNz => k_asm); (case zkTz => k_asm); (case zkkz => first | exact rfl | assumption); (case zkdz => ktr_room); (case zkuz => ktr_units); (case zUz => k_updF); (case zh0z => assumption); (case zhb0z => assumption); (case zhbz => assumption)); intro zr9z zt9z zh9z ztk9z za9z zb9z zta9z ztb9z zhr0z zhr1z zha0z zhb0z zhb1z zF9z zN9z; (try dsimp only at zN9z); (try dsimp only); (try k_fold); (try k_sweep)) | ((with_reducible show wpAny _ _ (PySem.call (Value.ref 104) [Value.ref _, Value.int _ _]) _ _ _); k_dflt (refine' take_use _ _ _ _ _ _ _ _ _ _ _ ?zUz ?zh0z ?zhb0z ?zhbz ?zhtz ?zhttz _ _ _ _ _ _ _ _ _ _ _ _ _ _ _ _ _ _ _ _ ?zkBz ?zkFz ?zkXz ?zkNz ?zkTz ?zkkz ?zkdz ?zkuz ?_; (case zkBz => k_asm); (case zkFz => k_asm); (case zkXz => k_asm); (case zkNz => k_asm); (case zkTz => k_asm); (case zkkz => first | exact rfl | assumption); (case zkdz => ktr_room); (case zkuz => ktr_units); (case zUz => k_updF); (case zh0z => assumption); (case zhb0z => assumption); (case zhbz => assumption); (case zhtz => decide); (case zhttz => decide)); intro zr9z zt9z zh9z ztk9z za9z zb9z zta9z ztb9z zhr0z zhr1z zha0z zhb0z zhb1z zF9z zN9z; (try dsimp only at zN9z); (try dsimp only); (try k_fold); (try k_sweep)) | ((with_reducible show wpAny _ _ (PySem.call (Value.ref 137) [Value.int _ _, Value.bytes _ _, Value.bytes _ _, Value.int _ _]) _ _ _); k_dflt (refine' due_call _ _ _ _ _ _ _ _ _ _ _ _ ?zhbIz ?zhcIz ?zhbz ?zhcz ?zh0z ?zh1z ?zhkz ?zhk5z _ _ _ _ _ _ _ _ _ _ _ _ _ _ _ _ _ _ _ _ ?zkBz ?zkFz ?zkXz ?zkNz ?zkTz ?zkkz ?zkdz ?zkuz ?_; (case zkBz => k_asm); (case zkFz => k_asm); (case zkXz => k_asm); (case zkNz => k_asm); (case zkTz => k_asm); (case zkkz => first | exact rfl | assumption); (case zkdz => ktr_room); (case zkuz => ktr_units); (case zhbIz => assumption); (case zhcIz => assumption); (case zhbz => omega); (case zhcz => omega); (case zh0z => omega); (case zh1z => omega); (case zhkz => omega); (case zhk5z => omega)); intro zb9z zt9z zh9z ztk9z zhb9z zF9z zN9z; (try dsimp only); (try k_fold); (try k_sweep)) | ((with_reducible show wpAny _ _ (PySem.call (Value.ref 83) [Value.bytes _ _]) _ _ _); k_dflt (refine' weight_call _ _ _ _ ?zhbz _ _ _ _ _ _ _ _ _ _ _ _ _ _ _ _ _ _ _ _ ?zkBz ?zkFz ?zkXz ?zkNz ?zkTz ?zkkz ?zkdz ?zkuz ?_; (case zkBz => k_asm); (case zkFz => k_asm); (case zkXz => k_asm); (case zkNz => k_asm); (case zkTz => k_asm); (case zkkz => first | exact rfl | assumption); (case zkdz => ktr_room); (case zkuz => ktr_units); (case zhbz => assumption)); intro zt9z zh9z ztk9z zF9z zN9z; (try dsimp only); (try k_fold); (try k_sweep)) | ((with_reducible show wpAny _ _ (PySem.call (Value.ref 142) [Value.bytes _ _]) _ _ _); k_dflt (refine' lweight_call _ _ _ _ ?zhbz _ _ _ _ _ _ _ _ _ _ _ _ _ _ _ _ _ _ _ _ ?zkBz ?zkFz ?zkXz ?zkNz ?zkTz ?zkkz ?zkdz ?zkuz ?_; (case zkBz => k_asm); (case zkFz => k_asm); (case zkXz => k_asm); (case zkNz => k_asm); (case zkTz => k_asm); (case zkkz => first | exact rfl | assumption); (case zkdz => ktr_room); (case zkuz => ktr_units); (case zhbz => assumption)); intro zt9z zh9z ztk9z zF9z zN9z; (try dsimp only); (try k_fold); (try k_sweep))); (try k_steps))))
          have hmk := KBa.ints_make hks
          rename News _ _ _ _ => kN9
          rename Fr _ _ _ _ => kF9
          refine ⟨rfl, _, _, _, _, _, ks, _, _, _, _, rfl, hmk, (by omega), hks, (by assumption), kF9, (fun p hp => kN9 p (.tail _ hp))⟩
      · (k_steps; repeat (any_goals ((refine unheld ?_; first | ((with_reducible show wpAny _ _ (PySem.call (Value.ref 130) [Value.ref _]) _ _ _); k_dflt (refine' octet_call _ _ _ _ _ _ _ _ _ ?zUz ?zh0z ?zhb0z ?zhbz _ _ _ _ _ _ _ _ _ _ _ _ _ _ _ _ _ _ _ _ ?zkBz ?zkFz ?zkXz ?zkNz ?zkTz ?zkkz ?zkdz ?zkuz ?_; (case zkBz => k_asm); (case zkFz => k_asm); (case zkXz => k_asm); (case zkNz => k_asm); (case zkTz => k_asm); (case zkkz => first | exact rfl | assumption); (case zkdz => ktr_room); (case zkuz => ktr_units); (case zUz => k_updF); (case zh0z => assumption); (case zhb0z => assumption); (case zhbz => assumption)); intro zr9z zt9z zh9z ztk9z za9z zb9z zta9z ztb9z zhr0z zhr1z zha0z zhb0z zhb1z zF9z zN9z; (try dsimp only at zN9z); (try dsimp only); (try k_fold); (try k_sweep)) | ((with_reducible show wpAny _ _ (PySem.call (Value.ref 104) [Value.ref _, Value.int _ _]) _ _ _); k_dflt (refine' take_use _ _ _ _ _ _ _ _ _ _ _ ?zUz ?zh0z ?zhb0z ?zhbz ?zhtz ?zhttz _ _ _ _ _ _ _ _ _ _ _ _ _ _ _ _ _ _ _ _ ?zkBz ?zkFz ?zkXz ?zkNz ?zkTz ?zkkz ?zkdz ?zkuz ?_; (case zkBz => k_asm); (case zkFz => k_asm); (case zkXz => k_asm); (case zkNz => k_asm); (case zkTz => k_asm); (case zkkz => first | exact rfl | assumption); (case zkdz => ktr_room); (case zkuz => ktr_units); (case zUz => k_updF); (case zh0z => assumption); (case zhb0z => assumption); (case zhbz => assumption); (case zhtz => decide); (case zhttz => decide)); intro zr9z zt9z zh9z ztk9z za9z zb9z zta9z ztb9z zhr0z zhr1z zha0z zhb0z zhb1z zF9z zN9z; (try dsimp only at zN9z); (try dsimp only); (try k_fold); (try k_sweep)) | ((with_reducible show wpAny _ _ (PySem.call (Value.ref 137) [Value.int _ _, Value.bytes _ _, Value.bytes _ _, Value.int _ _]) _ _ _); k_dflt (refine' due_call _ _ _ _ _ _ _ _ _ _ _ _ ?zhbIz ?zhcIz ?zhbz ?zhcz ?zh0z ?zh1z ?zhkz ?zhk5z _ _ _ _ _ _ _ _ _ _ _ _ _ _ _ _ _ _ _ _ ?zkBz ?zkFz ?zkXz ?zkNz ?zkTz ?zkkz ?zkdz ?zkuz ?_; (case zkBz => k_asm); (case zkFz => k_asm); (case zkXz => k_asm); (case zkNz => k_asm); (case zkTz => k_asm); (case zkkz => first | exact rfl | assumption); (case zkdz => ktr_room); (case zkuz => ktr_units); (case zhbIz => assumption); (case zhcIz => assumption); (case zhbz => omega); (case zhcz => omega); (case zh0z => omega); (case zh1z => omega); (case zhkz => omega); (case zhk5z => omega)); intro zb9z zt9z zh9z ztk9z zhb9z zF9z zN9z; (try dsimp only); (try k_fold); (try k_sweep)) | ((with_reducible show wpAny _ _ (PySem.call (Value.ref 83) [Value.bytes _ _]) _ _ _); k_dflt (refine' weight_call _ _ _ _ ?zhbz _ _ _ _ _ _ _ _ _ _ _ _ _ _ _ _ _ _ _ _ ?zkBz ?zkFz ?zkXz ?zkNz ?zkTz ?zkkz ?zkdz ?zkuz ?_; (case zkBz => k_asm); (case zkFz => k_asm); (case zkXz => k_asm); (case zkNz => k_asm); (case zkTz => k_asm); (case zkkz => first | exact rfl | assumption); (case zkdz => ktr_room); (case zkuz => ktr_units); (case zhbz => assumption)); intro zt9z zh9z ztk9z zF9z zN9z; (try dsimp only); (try k_fold); (try k_sweep)) | ((with_reducible show wpAny _ _ (PySem.call (Value.ref 142) [Value.bytes _ _]) _ _ _); k_dflt (refine' lweight_call _ _ _ _ ?zhbz _ _ _ _ _ _ _ _ _ _ _ _ _ _ _ _ _ _ _ _ ?zkBz ?zkFz ?zkXz ?zkNz ?zkTz ?zkkz ?zkdz ?zkuz ?_; (case zkBz => k_asm); (case zkFz => k_asm); (case zkXz => k_asm); (case zkNz => k_asm); (case zkTz => k_asm); (case zkkz => first | exact rfl | assumption); (case zkdz => ktr_room); (case zkuz => ktr_units); (case zhbz => assumption)); intro zt9z zh9z ztk9z zF9z zN9z; (try dsimp only); (try k_fold); (try k_sweep))); (try k_steps))))
        rename News _ _ _ _ => kN9
        rename Fr _ _ _ _ => kF9
        refine ⟨rfl, _, _, _, _, _, List.replicate row.length 0, _, _, _, _, rfl, ?_, List.length_replicate, ?_, (by assumption), kF9, kN9⟩
        · rw [ints_zeros]; congr 1; omega
        · intro q hq; rw [List.eq_of_mem_replicate hq]; decide
    · obtain ⟨h7, tk7, oA', bA, tA, ahead, a, b, ta, tb, rfl, hA, hAl, hAq, dA', F7, N7⟩ := hM
      refine wpN_execs_A ?_
      (k_steps; repeat (any_goals ((refine unheld ?_; first | ((with_reducible show wpAny _ _ (PySem.call (Value.ref 130) [Value.ref _]) _ _ _); k_dflt (refine' octet_call _ _ _ _ _ _ _ _ _ ?zUz ?zh0z ?zhb0z ?zhbz _ _ _ _ _ _ _ _ _ _ _ _ _ _ _ _ _ _ _ _ ?zkBz ?zkFz ?zkXz ?zkNz ?zkTz ?zkkz ?zkdz ?zkuz ?_; (case zkBz => k_asm); (case zkFz => k_asm); (case zkXz => k_asm); (case zkNz => k_asm); (case zkTz => k_asm); (case zkkz => first | exact rfl | assumption); (case zkdz => ktr_room); (case zkuz => ktr_units); (case zUz => k_updF); (case zh0z => assumption); (case zhb0z => assumption); (case zhbz => assumption)); intro zr9z zt9z zh9z ztk9z za9z zb9z zta9z ztb9z zhr0z zhr1z zha0z zhb0z zhb1z zF9z zN9z; (try dsimp only at zN9z); (try dsimp only); (try k_fold); (try k_sweep)) | ((with_reducible show wpAny _ _ (PySem.call (Value.ref 104) [Value.ref _, Value.int _ _]) _ _ _); k_dflt (refine' take_use _ _ _ _ _ _ _ _ _ _ _ ?zUz ?zh0z ?zhb0z ?zhbz ?zhtz ?zhttz _ _ _ _ _ _ _ _ _ _ _ _ _ _ _ _ _ _ _ _ ?zkBz ?zkFz ?zkXz ?zkNz ?zkTz ?zkkz ?zkdz ?zkuz ?_; (case zkBz => k_asm); (case zkFz => k_asm); (case zkXz => k_asm); (case zkNz => k_asm); (case zkTz => k_asm); (case zkkz => first | exact rfl | assumption); (case zkdz => ktr_room); (case zkuz => ktr_units); (case zUz => k_updF); (case zh0z => assumption); (case zhb0z => assumption); (case zhbz => assumption); (case zhtz => decide); (case zhttz => decide)); intro zr9z zt9z zh9z ztk9z za9z zb9z zta9z ztb9z zhr0z zhr1z zha0z zhb0z zhb1z zF9z zN9z; (try dsimp only at zN9z); (try dsimp only); (try k_fold); (try k_sweep)) | ((with_reducible show wpAny _ _ (PySem.call (Value.ref 137) [Value.int _ _, Value.bytes _ _, Value.bytes _ _, Value.int _ _]) _ _ _); k_dflt (refine' due_call _ _ _ _ _ _ _ _ _ _ _ _ ?zhbIz ?zhcIz ?zhbz ?zhcz ?zh0z ?zh1z ?zhkz ?zhk5z _ _ _ _ _ _ _ _ _ _ _ _ _ _ _ _ _ _ _ _ ?zkBz ?zkFz ?zkXz ?zkNz ?zkTz ?zkkz ?zkdz ?zkuz ?_; (case zkBz => k_asm); (case zkFz => k_asm); (case zkXz => k_asm); (case zkNz => k_asm); (case zkTz => k_asm); (case zkkz => first | exact rfl | assumption); (case zkdz => ktr_room); (case zkuz => ktr_units); (case zhbIz => assumption); (case zhcIz => assumption); (case zhbz => omega); (case zhcz => omega); (case zh0z => omega); (case zh1z => omega); (case zhkz => omega); (case zhk5z => omega)); intro zb9z zt9z zh9z ztk9z zhb9z zF9z zN9z; (try dsimp only); (try k_fold); (try k_sweep)) | ((with_reducible show wpAny _ _ (PySem.call (Value.ref 83) [Value.bytes _ _]) _ _ _); k_dflt (refine' weight_call _ _ _ _ ?zhbz _ _ _ _ _ _ _ _ _ _ _ _ _ _ _ _ _ _ _ _ ?zkBz ?zkFz ?zkXz ?zkNz ?zkTz ?zkkz ?zkdz ?zkuz ?_; (case zkBz => k_asm); (case zkFz => k_asm); (case zkXz => k_asm); (case zkNz => k_asm); (case zkTz => k_asm); (case zkkz => first | exact rfl | assumption); (case zkdz => ktr_room); (case zkuz => ktr_units); (case zhbz => assumption)); intro zt9z zh9z ztk9z zF9z zN9z; (try dsimp only); (try k_fold); (try k_sweep)) | ((with_reducible show wpAny _ _ (PySem.call (Value.ref 142) [Value.bytes _ _]) _ _ _); k_dflt (refine' lweight_call _ _ _ _ ?zhbz _ _ _ _ _ _ _ _ _ _ _ _ _ _ _ _ _ _ _ _ ?zkBz ?zkFz ?zkXz ?zkNz ?zkTz ?zkkz ?zkdz ?zkuz ?_; (case zkBz => k_asm); (case zkFz => k_asm); (case zkXz => k_asm); (case zkNz => k_asm); (case zkTz => k_asm); (case zkkz => first | exact rfl | assumption); (case zkdz => ktr_room); (case zkuz => ktr_units); (case zhbz => assumption)); intro zt9z zh9z ztk9z zF9z zN9z; (try dsimp only); (try k_fold); (try k_sweep))); (try k_steps))))
      refine told_goal (n := 5) rfl (by assumption) rfl (by decide) (by k_asm) (by k_asm) (fun k => filtF k row ahead st) (fun i t' ys I oI C oC D m₂ h tk E' hi hC hx F N off ne => ?_) (fun g ys hT => ?_)
      · clear hret
        have off2 := off
        simp only [LCg.Off3] at off2
        repeat (have h9 := off2.1.1; have h9 := off2.1.2.1; have h9 := off2.1.2.2; replace off2 := off2.2)
        have h9 := ne.1; have h9 := ne.2.1; have h9 := ne.2.2; clear ne
        refine postA fun Q8 E8 hQ8 hE8 => ?_
        (k_steps; repeat (any_goals ((refine unheld ?_; first | ((with_reducible show wpAny _ _ (PySem.call (Value.ref 130) [Value.ref _]) _ _ _); k_dflt (refine' octet_call _ _ _ _ _ _ _ _ _ ?zUz ?zh0z ?zhb0z ?zhbz _ _ _ _ _ _ _ _ _ _ _ _ _ _ _ _ _ _ _ _ ?zkBz ?zkFz ?zkXz ?zkNz ?zkTz ?zkkz ?zkdz ?zkuz ?_; (case zkBz => k_asm); (case zkFz => k_asm); (case zkXz => k_asm); (case zkNz => k_asm); (case zkTz => k_asm); (case zkkz => first | exact rfl | assumption); (case zkdz => ktr_room); (case zkuz => ktr_units); (case zUz => k_updF); (case zh0z => assumption); (case zhb0z => assumption); (case zhbz => assumption)); intro zr9z zt9z zh9z ztk9z za9z zb9z zta9z ztb9z zhr0z zhr1z zha0z zhb0z zhb1z zF9z zN9z; (try dsimp only at zN9z); (try dsimp only); (try k_fold); (try k_sweep)) | ((with_reducible show wpAny _ _ (PySem.call (Value.ref 104) [Value.ref _, Value.int _ _]) _ _ _); k_dflt (refine' take_use _ _ _ _ _ _ _ _ _ _ _ ?zUz ?zh0z ?zhb0z ?zhbz ?zhtz ?zhttz _ _ _ _ _ _ _ _ _ _ _ _ _ _ _ _ _ _ _ _ ?zkBz ?zkFz ?zkXz ?zkNz ?zkTz ?zkkz ?zkdz ?zkuz ?_; (case zkBz => k_asm); (case zkFz => k_asm); (case zkXz => k_asm); (case zkNz => k_asm); (case zkTz => k_asm); (case zkkz => first | exact rfl | assumption); (case zkdz => ktr_room); (case zkuz => ktr_units); (case zUz => k_updF); (case zh0z => assumption); (case zhb0z => assumption); (case zhbz => assumption); (case zhtz => decide); (case zhttz => decide)); intro zr9z zt9z zh9z ztk9z za9z zb9z zta9z ztb9z zhr0z zhr1z zha0z zhb0z zhb1z zF9z zN9z; (try dsimp only at zN9z); (try dsimp only); (try k_fold); (try k_sweep)) | ((with_reducible show wpAny _ _ (PySem.call (Value.ref 137) [Value.int _ _, Value.bytes _ _, Value.bytes _ _, Value.int _ _]) _ _ _); k_dflt (refine' due_call _ _ _ _ _ _ _ _ _ _ _ _ ?zhbIz ?zhcIz ?zhbz ?zhcz ?zh0z ?zh1z ?zhkz ?zhk5z _ _ _ _ _ _ _ _ _ _ _ _ _ _ _ _ _ _ _ _ ?zkBz ?zkFz ?zkXz ?zkNz ?zkTz ?zkkz ?zkdz ?zkuz ?_; (case zkBz => k_asm); (case zkFz => k_asm); (case zkXz => k_asm); (case zkNz => k_asm); (case zkTz => k_asm); (case zkkz => first | exact rfl | assumption); (case zkdz => ktr_room); (case zkuz => ktr_units); (case zhbIz => assumption); (case zhcIz => assumption); (case zhbz => omega); (case zhcz => omega); (case zh0z => omega); (case zh1z => omega); (case zhkz => omega); (case zhk5z => omega)); intro zb9z zt9z zh9z ztk9z zhb9z zF9z zN9z; (try dsimp only); (try k_fold); (try k_sweep)) | ((with_reducible show wpAny _ _ (PySem.call (Value.ref 83) [Value.bytes _ _]) _ _ _); k_dflt (refine' weight_call _ _ _ _ ?zhbz _ _ _ _ _ _ _ _ _ _ _ _ _ _ _ _ _ _ _ _ ?zkBz ?zkFz ?zkXz ?zkNz ?zkTz ?zkkz ?zkdz ?zkuz ?_; (case zkBz => k_asm); (case zkFz => k_asm); (case zkXz => k_asm); (case zkNz => k_asm); (case zkTz => k_asm); (case zkkz => first | exact rfl | assumption); (case zkdz => ktr_room); (case zkuz => ktr_units); (case zhbz => assumption)); intro zt9z zh9z ztk9z zF9z zN9z; (try dsimp only); (try k_fold); (try k_sweep)) | ((with_reducible show wpAny _ _ (PySem.call (Value.ref 142) [Value.bytes _ _]) _ _ _); k_dflt (refine' lweight_call _ _ _ _ ?zhbz _ _ _ _ _ _ _ _ _ _ _ _ _ _ _ _ _ _ _ _ ?zkBz ?zkFz ?zkXz ?zkNz ?zkTz ?zkkz ?zkdz ?zkuz ?_; (case zkBz => k_asm); (case zkFz => k_asm); (case zkXz => k_asm); (case zkNz => k_asm); (case zkTz => k_asm); (case zkkz => first | exact rfl | assumption); (case zkdz => ktr_room); (case zkuz => ktr_units); (case zhbz => assumption)); intro zt9z zh9z ztk9z zF9z zN9z; (try dsimp only); (try k_fold); (try k_sweep))); (try k_steps))))
        rename News _ _ _ _ => kN9
        rename Fr _ _ _ _ => kF9
        exact hQ8 _ _ (LCg.CompEnd.intro kF9 kN9 _ (fun p hp => hp) off True.intro ⟨rfl, _, _, rfl, (by assumption)⟩)
      · unfold LCg.FinA
        intro D h tk F N off
        have off2 := off
        simp only [LCg.Off1] at off2
        repeat (have h9 := off2.1; replace off2 := off2.2)
        refine wpN_execs_cons (wpN_For ?_)
        (k_steps; repeat (any_goals ((refine unheld ?_; first | ((with_reducible show wpAny _ _ (PySem.call (Value.ref 130) [Value.ref _]) _ _ _); k_dflt (refine' octet_call _ _ _ _ _ _ _ _ _ ?zUz ?zh0z ?zhb0z ?zhbz _ _ _ _ _ _ _ _ _ _ _ _ _ _ _ _ _ _ _ _ ?zkBz ?zkFz ?zkXz ?zkNz ?zkTz ?zkkz ?zkdz ?zkuz ?_; (case zkBz => k_asm); (case zkFz => k_asm); (case zkXz => k_asm); (case zkNz => k_asm); (case zkTz => k_asm); (case zkkz => first | exact rfl | assumption); (case zkdz => ktr_room); (case zkuz => ktr_units); (case zUz => k_updF); (case zh0z => assumption); (case zhb0z => assumption); (case zhbz => assumption)); intro zr9z zt9z zh9z ztk9z za9z zb9z zta9z ztb9z zhr0z zhr1z zha0z zhb0z zhb1z zF9z zN9z; (try dsimp only at zN9z); (try dsimp only); (try k_fold); (try k_sweep)) | ((with_reducible show wpAny _ _ (PySem.call (Value.ref 104) [Value.ref _, Value.int _ _]) _ _ _); k_dflt (refine' take_use _ _ _ _ _ _ _ _ _ _ _ ?zUz ?zh0z ?zhb0z ?zhbz ?zhtz ?zhttz _ _ _ _ _ _ _ _ _ _ _ _ _ _ _ _ _ _ _ _ ?zkBz ?zkFz ?zkXz ?zkNz ?zkTz ?zkkz ?zkdz ?zkuz ?_; (case zkBz => k_asm); (case zkFz => k_asm); (case zkXz => k_asm); (case zkNz => k_asm); (case zkTz => k_asm); (case zkkz => first | exact rfl | assumption); (case zkdz => ktr_room); (case zkuz => ktr_units); (case zUz => k_updF); (case zh0z => assumption); (case zhb0z => assumption); (case zhbz => assumption); (case zhtz => decide); (case zhttz => decide)); intro zr9z zt9z zh9z ztk9z za9z zb9z zta9z ztb9z zhr0z zhr1z zha0z zhb0z zhb1z zF9z zN9z; (try dsimp only at zN9z); (try dsimp only); (try k_fold); (try k_sweep)) | ((with_reducible show wpAny _ _ (PySem.call (Value.ref 137) [Value.int _ _, Value.bytes _ _, Value.bytes _ _, Value.int _ _]) _ _ _); k_dflt (refine' due_call _ _ _ _ _ _ _ _ _ _ _ _ ?zhbIz ?zhcIz ?zhbz ?zhcz ?zh0z ?zh1z ?zhkz ?zhk5z _ _ _ _ _ _ _ _ _ _ _ _ _ _ _ _ _ _ _ _ ?zkBz ?zkFz ?zkXz ?zkNz ?zkTz ?zkkz ?zkdz ?zkuz ?_; (case zkBz => k_asm); (case zkFz => k_asm); (case zkXz => k_asm); (case zkNz => k_asm); (case zkTz => k_asm); (case zkkz => first | exact rfl | assumption); (case zkdz => ktr_room); (case zkuz => ktr_units); (case zhbIz => assumption); (case zhcIz => assumption); (case zhbz => omega); (case zhcz => omega); (case zh0z => omega); (case zh1z => omega); (case zhkz => omega); (case zhk5z => omega)); intro zb9z zt9z zh9z ztk9z zhb9z zF9z zN9z; (try dsimp only); (try k_fold); (try k_sweep)) | ((with_reducible show wpAny _ _ (PySem.call (Value.ref 83) [Value.bytes _ _]) _ _ _); k_dflt (refine' weight_call _ _ _ _ ?zhbz _ _ _ _ _ _ _ _ _ _ _ _ _ _ _ _ _ _ _ _ ?zkBz ?zkFz ?zkXz ?zkNz ?zkTz ?zkkz ?zkdz ?zkuz ?_; (case zkBz => k_asm); (case zkFz => k_asm); (case zkXz => k_asm); (case zkNz => k_asm); (case zkTz => k_asm); (case zkkz => first | exact rfl | assumption); (case zkdz => ktr_room); (case zkuz => ktr_units); (case zhbz => assumption)); intro zt9z zh9z ztk9z zF9z zN9z; (try dsimp only); (try k_fold); (try k_sweep)) | ((with_reducible show wpAny _ _ (PySem.call (Value.ref 142) [Value.bytes _ _]) _ _ _); k_dflt (refine' lweight_call _ _ _ _ ?zhbz _ _ _ _ _ _ _ _ _ _ _ _ _ _ _ _ _ _ _ _ ?zkBz ?zkFz ?zkXz ?zkNz ?zkTz ?zkkz ?zkdz ?zkuz ?_; (case zkBz => k_asm); (case zkFz => k_asm); (case zkXz => k_asm); (case zkNz => k_asm); (case zkTz => k_asm); (case zkkz => first | exact rfl | assumption); (case zkdz => ktr_room); (case zkuz => ktr_units); (case zhbz => assumption)); intro zt9z zh9z ztk9z zF9z zN9z; (try dsimp only); (try k_fold); (try k_sweep))); (try k_steps))))
        refine rangeNF (n := 5) rfl (by assumption) (by decide) (by decide) (by k_asm) (by k_asm) [Str.ofString "kind"] (fun i t m₁ h₁ tk₁ I oI hi hoff hne2 F₁ N₁ => ?_) (fun h₂ tk₂ m₂ F₂ N₂ hoff => ?_)
        · clear hret
          obtain ⟨x1, rfl⟩ := off1 hoff
          clear hoff
          refine postN2 fun Q8 hQ8 => ?_
          obtain ⟨bT, tT, hTi, hTb⟩ := hT.2 i hi
          have hTi2 : ys[((i : Nat) : Int).toNat]? = some (.bytes bT tT) := by simpa using hTi
          have hbs : bR.size ≤ 8 := by rw [← KBw.ints_length, hR]; omega
          have hbs2 : bA.size = bR.size := by rw [← KBw.ints_length, ← KBw.ints_length, hR, hA]; omega
          (k_steps; repeat (any_goals ((refine unheld ?_; first | ((with_reducible show wpAny _ _ (PySem.call (Value.ref 130) [Value.ref _]) _ _ _); k_dflt (refine' octet_call _ _ _ _ _ _ _ _ _ ?zUz ?zh0z ?zhb0z ?zhbz _ _ _ _ _ _ _ _ _ _ _ _ _ _ _ _ _ _ _ _ ?zkBz ?zkFz ?zkXz ?zkNz ?zkTz ?zkkz ?zkdz ?zkuz ?_; (case zkBz => k_asm); (case zkFz => k_asm); (case zkXz => k_asm); (case zkNz => k_asm); (case zkTz => k_asm); (case zkkz => first | exact rfl | assumption); (case zkdz => ktr_room); (case zkuz => ktr_units); (case zUz => k_updF); (case zh0z => assumption); (case zhb0z => assumption); (case zhbz => assumption)); intro zr9z zt9z zh9z ztk9z za9z zb9z zta9z ztb9z zhr0z zhr1z zha0z zhb0z zhb1z zF9z zN9z; (try dsimp only at zN9z); (try dsimp only); (try k_fold); (try k_sweep)) | ((with_reducible show wpAny _ _ (PySem.call (Value.ref 104) [Value.ref _, Value.int _ _]) _ _ _); k_dflt (refine' take_use _ _ _ _ _ _ _ _ _ _ _ ?zUz ?zh0z ?zhb0z ?zhbz ?zhtz ?zhttz _ _ _ _ _ _ _ _ _ _ _ _ _ _ _ _ _ _ _ _ ?zkBz ?zkFz ?zkXz ?zkNz ?zkTz ?zkkz ?zkdz ?zkuz ?_; (case zkBz => k_asm); (case zkFz => k_asm); (case zkXz => k_asm); (case zkNz => k_asm); (case zkTz => k_asm); (case zkkz => first | exact rfl | assumption); (case zkdz => ktr_room); (case zkuz => ktr_units); (case zUz => k_updF); (case zh0z => assumption); (case zhb0z => assumption); (case zhbz => assumption); (case zhtz => decide); (case zhttz => decide)); intro zr9z zt9z zh9z ztk9z za9z zb9z zta9z ztb9z zhr0z zhr1z zha0z zhb0z zhb1z zF9z zN9z; (try dsimp only at zN9z); (try dsimp only); (try k_fold); (try k_sweep)) | ((with_reducible show wpAny _ _ (PySem.call (Value.ref 137) [Value.int _ _, Value.bytes _ _, Value.bytes _ _, Value.int _ _]) _ _ _); k_dflt (refine' due_call _ _ _ _ _ _ _ _ _ _ _ _ ?zhbIz ?zhcIz ?zhbz ?zhcz ?zh0z ?zh1z ?zhkz ?zhk5z _ _ _ _ _ _ _ _ _ _ _ _ _ _ _ _ _ _ _ _ ?zkBz ?zkFz ?zkXz ?zkNz ?zkTz ?zkkz ?zkdz ?zkuz ?_; (case zkBz => k_asm); (case zkFz => k_asm); (case zkXz => k_asm); (case zkNz => k_asm); (case zkTz => k_asm); (case zkkz => first | exact rfl | assumption); (case zkdz => ktr_room); (case zkuz => ktr_units); (case zhbIz => assumption); (case zhcIz => assumption); (case zhbz => omega); (case zhcz => omega); (case zh0z => omega); (case zh1z => omega); (case zhkz => omega); (case zhk5z => omega)); intro zb9z zt9z zh9z ztk9z zhb9z zF9z zN9z; (try dsimp only); (try k_fold); (try k_sweep)) | ((with_reducible show wpAny _ _ (PySem.call (Value.ref 83) [Value.bytes _ _]) _ _ _); k_dflt (refine' weight_call _ _ _ _ ?zhbz _ _ _ _ _ _ _ _ _ _ _ _ _ _ _ _ _ _ _ _ ?zkBz ?zkFz ?zkXz ?zkNz ?zkTz ?zkkz ?zkdz ?zkuz ?_; (case zkBz => k_asm); (case zkFz => k_asm); (case zkXz => k_asm); (case zkNz => k_asm); (case zkTz => k_asm); (case zkkz => first | exact rfl | assumption); (case zkdz => ktr_room); (case zkuz => ktr_units); (case zhbz => assumption)); intro zt9z zh9z ztk9z zF9z zN9z; (try dsimp only); (try k_fold); (try k_sweep)) | ((with_reducible show wpAny _ _ (PySem.call (Value.ref 142) [Value.bytes _ _]) _ _ _); k_dflt (refine' lweight_call _ _ _ _ ?zhbz _ _ _ _ _ _ _ _ _ _ _ _ _ _ _ _ _ _ _ _ ?zkBz ?zkFz ?zkXz ?zkNz ?zkTz ?zkkz ?zkdz ?zkuz ?_; (case zkBz => k_asm); (case zkFz => k_asm); (case zkXz => k_asm); (case zkNz => k_asm); (case zkTz => k_asm); (case zkkz => first | exact rfl | assumption); (case zkdz => ktr_room); (case zkuz => ktr_units); (case zhbz => assumption)); intro zt9z zh9z ztk9z zF9z zN9z; (try dsimp only); (try k_fold); (try k_sweep))); (try k_steps))))
          refine wpN_execs_cons (wpN_If (wpN_isTrue_Or2 (wpN_isTrue_Compare1 (CallN ?_))))
          (k_steps; repeat (any_goals ((refine unheld ?_; first | ((with_reducible show wpAny _ _ (PySem.call (Value.ref 130) [Value.ref _]) _ _ _); k_dflt (refine' octet_call _ _ _ _ _ _ _ _ _ ?zUz ?zh0z ?zhb0z ?zhbz _ _ _ _ _ _ _ _ _ _ _ _ _ _ _ _ _ _ _ _ ?zkBz ?zkFz ?zkXz ?zkNz ?zkTz ?zkkz ?zkdz ?zkuz ?_; (case zkBz => k_asm); (case zkFz => k_asm); (case zkXz => k_asm); (case zkNz => k_asm); (case zkTz => k_asm); (case zkkz => first | exact rfl | assumption); (case zkdz => ktr_room); (case zkuz => ktr_units); (case zUz => k_updF); (case zh0z => assumption); (case zhb0z => assumption); (case zhbz => assumption)); intro zr9z zt9z zh9z ztk9z za9z zb9z zta9z ztb9z zhr0z zhr1z zha0z zhb0z zhb1z zF9z zN9z; (try dsimp only at zN9z); (try dsimp only); (try k_fold); (try k_sweep)) | ((with_reducible show wpAny _ _ (PySem.call (Value.ref 104) [Value.ref _, Value.int _ _]) _ _ _); k_dflt (refine' take_use _ _ _ _ _ _ _ _ _ _ _ ?zUz ?zh0z ?zhb0z ?zhbz ?zhtz ?zhttz _ _ _ _ _ _ _ _ _ _ _ _ _ _ _ _ _ _ _ _ ?zkBz ?zkFz ?zkXz ?zkNz ?zkTz ?zkkz ?zkdz ?zkuz ?_; (case zkBz => k_asm); (case zkFz => k_asm); (case zkXz => k_asm); (case zkNz => k_asm); (case zkTz => k_asm); (case zkkz => first | exact rfl | assumption); (case zkdz => ktr_room); (case zkuz => ktr_units); (case zUz => k_updF); (case zh0z => assumption); (case zhb0z => assumption); (case zhbz => assumption); (case zhtz => decide); (case zhttz => decide)); intro zr9z zt9z zh9z ztk9z za9z zb9z zta9z ztb9z zhr0z zhr1z zha0z zhb0z zhb1z zF9z zN9z; (try dsimp only at zN9z); (try dsimp only); (try k_fold); (try k_sweep)) | ((with_reducible show wpAny _ _ (PySem.call (Value.ref 137) [Value.int _ _, Value.bytes _ _, Value.bytes _ _, Value.int _ _]) _ _ _); k_dflt (refine' due_call _ _ _ _ _ _ _ _ _ _ _ _ ?zhbIz ?zhcIz ?zhbz ?zhcz ?zh0z ?zh1z ?zhkz ?zhk5z _ _ _ _ _ _ _ _ _ _ _ _ _ _ _ _ _ _ _ _ ?zkBz ?zkFz ?zkXz ?zkNz ?zkTz ?zkkz ?zkdz ?zkuz ?_; (case zkBz => k_asm); (case zkFz => k_asm); (case zkXz => k_asm); (case zkNz => k_asm); (case zkTz => k_asm); (case zkkz => first | exact rfl | assumption); (case zkdz => ktr_room); (case zkuz => ktr_units); (case zhbIz => assumption); (case zhcIz => assumption); (case zhbz => omega); (case zhcz => omega); (case zh0z => omega); (case zh1z => omega); (case zhkz => omega); (case zhk5z => omega)); intro zb9z zt9z zh9z ztk9z zhb9z zF9z zN9z; (try dsimp only); (try k_fold); (try k_sweep)) | ((with_reducible show wpAny _ _ (PySem.call (Value.ref 83) [Value.bytes _ _]) _ _ _); k_dflt (refine' weight_call _ _ _ _ ?zhbz _ _ _ _ _ _ _ _ _ _ _ _ _ _ _ _ _ _ _ _ ?zkBz ?zkFz ?zkXz ?zkNz ?zkTz ?zkkz ?zkdz ?zkuz ?_; (case zkBz => k_asm); (case zkFz => k_asm); (case zkXz => k_asm); (case zkNz => k_asm); (case zkTz => k_asm); (case zkkz => first | exact rfl | assumption); (case zkdz => ktr_room); (case zkuz => ktr_units); (case zhbz => assumption)); intro zt9z zh9z ztk9z zF9z zN9z; (try dsimp only); (try k_fold); (try k_sweep)) | ((with_reducible show wpAny _ _ (PySem.call (Value.ref 142) [Value.bytes _ _]) _ _ _); k_dflt (refine' lweight_call _ _ _ _ ?zhbz _ _ _ _ _ _ _ _ _ _ _ _ _ _ _ _ _ _ _ _ ?zkBz ?zkFz ?zkXz ?zkNz ?zkTz ?zkkz ?zkdz ?zkuz ?_; (case zkBz => k_asm); (case zkFz => k_asm); (case zkXz => k_asm); (case zkNz => k_asm); (case zkTz => k_asm); (case zkkz => first | exact rfl | assumption); (case zkdz => ktr_room); (case zkuz => ktr_units); (case zhbz => assumption)); intro zt9z zh9z ztk9z zF9z zN9z; (try dsimp only); (try k_fold); (try k_sweep))); (try k_steps))))
          refine callWithN_K (K := hd.heap_39 w.params) (by k_is) ?_
          (k_steps; repeat (any_goals ((refine unheld ?_; first | ((with_reducible show wpAny _ _ (PySem.call (Value.ref 130) [Value.ref _]) _ _ _); k_dflt (refine' octet_call _ _ _ _ _ _ _ _ _ ?zUz ?zh0z ?zhb0z ?zhbz _ _ _ _ _ _ _ _ _ _ _ _ _ _ _ _ _ _ _ _ ?zkBz ?zkFz ?zkXz ?zkNz ?zkTz ?zkkz ?zkdz ?zkuz ?_; (case zkBz => k_asm); (case zkFz => k_asm); (case zkXz => k_asm); (case zkNz => k_asm); (case zkTz => k_asm); (case zkkz => first | exact rfl | assumption); (case zkdz => ktr_room); (case zkuz => ktr_units); (case zUz => k_updF); (case zh0z => assumption); (case zhb0z => assumption); (case zhbz => assumption)); intro zr9z zt9z zh9z ztk9z za9z zb9z zta9z ztb9z zhr0z zhr1z zha0z zhb0z zhb1z zF9z zN9z; (try dsimp only at zN9z); (try dsimp only); (try k_fold); (try k_sweep)) | ((with_reducible show wpAny _ _ (PySem.call (Value.ref 104) [Value.ref _, Value.int _ _]) _ _ _); k_dflt (refine' take_use _ _ _ _ _ _ _ _ _ _ _ ?zUz ?zh0z ?zhb0z ?zhbz ?zhtz ?zhttz _ _ _ _ _ _ _ _ _ _ _ _ _ _ _ _ _ _ _ _ ?zkBz ?zkFz ?zkXz ?zkNz ?zkTz ?zkkz ?zkdz ?zkuz ?_; (case zkBz => k_asm); (case zkFz => k_asm); (case zkXz => k_asm); (case zkNz => k_asm); (case zkTz => k_asm); (case zkkz => first | exact rfl | assumption); (case zkdz => ktr_room); (case zkuz => ktr_units); (case zUz => k_updF); (case zh0z => assumption); (case zhb0z => assumption); (case zhbz => assumption); (case zhtz => decide); (case zhttz => decide)); intro zr9z zt9z zh9z ztk9z za9z zb9z zta9z ztb9z zhr0z zhr1z zha0z zhb0z zhb1z zF9z zN9z; (try dsimp only at zN9z); (try dsimp only); (try k_fold); (try k_sweep)) | ((with_reducible show wpAny _ _ (PySem.call (Value.ref 137) [Value.int _ _, Value.bytes _ _, Value.bytes _ _, Value.int _ _]) _ _ _); k_dflt (refine' due_call _ _ _ _ _ _ _ _ _ _ _ _ ?zhbIz ?zhcIz ?zhbz ?zhcz ?zh0z ?zh1z ?zhkz ?zhk5z _ _ _ _ _ _ _ _ _ _ _ _ _ _ _ _ _ _ _ _ ?zkBz ?zkFz ?zkXz ?zkNz ?zkTz ?zkkz ?zkdz ?zkuz ?_; (case zkBz => k_asm); (case zkFz => k_asm); (case zkXz => k_asm); (case zkNz => k_asm); (case zkTz => k_asm); (case zkkz => first | exact rfl | assumption); (case zkdz => ktr_room); (case zkuz => ktr_units); (case zhbIz => assumption); (case zhcIz => assumption); (case zhbz => omega); (case zhcz => omega); (case zh0z => omega); (case zh1z => omega); (case zhkz => omega); (case zhk5z => omega)); intro zb9z zt9z zh9z ztk9z zhb9z zF9z zN9z; (try dsimp only); (try k_fold); (try k_sweep)) | ((with_reducible show wpAny _ _ (PySem.call (Value.ref 83) [Value.bytes _ _]) _ _ _); k_dflt (refine' weight_call _ _ _ _ ?zhbz _ _ _ _ _ _ _ _ _ _ _ _ _ _ _ _ _ _ _ _ ?zkBz ?zkFz ?zkXz ?zkNz ?zkTz ?zkkz ?zkdz ?zkuz ?_; (case zkBz => k_asm); (case zkFz => k_asm); (case zkXz => k_asm); (case zkNz => k_asm); (case zkTz => k_asm); (case zkkz => first | exact rfl | assumption); (case zkdz => ktr_room); (case zkuz => ktr_units); (case zhbz => assumption)); intro zt9z zh9z ztk9z zF9z zN9z; (try dsimp only); (try k_fold); (try k_sweep)) | ((with_reducible show wpAny _ _ (PySem.call (Value.ref 142) [Value.bytes _ _]) _ _ _); k_dflt (refine' lweight_call _ _ _ _ ?zhbz _ _ _ _ _ _ _ _ _ _ _ _ _ _ _ _ _ _ _ _ ?zkBz ?zkFz ?zkXz ?zkNz ?zkTz ?zkkz ?zkdz ?zkuz ?_; (case zkBz => k_asm); (case zkFz => k_asm); (case zkXz => k_asm); (case zkNz => k_asm); (case zkTz => k_asm); (case zkkz => first | exact rfl | assumption); (case zkdz => ktr_room); (case zkuz => ktr_units); (case zhbz => assumption)); intro zt9z zh9z ztk9z zF9z zN9z; (try dsimp only); (try k_fold); (try k_sweep))); (try k_steps))))
          (k_dflt (refine' filtered_callN _ _ _ _ _ _ _ _ _ _ ?hb ?hc ?h0 ?h1 ?hk ?hk5 _ _ _ _ _ _ _ _ _ _ _ _ _ _ _ _ _ _ _ _ ?kB ?kF ?kX ?kN ?kT ?kk ?kd ?ku ?_; (case kB => k_asm); (case kF => k_asm); (case kX => k_asm); (case kN => k_asm); (case kT => k_asm); (case kk => first | exact rfl | assumption); (case kd => ktr_room); (case ku => ktr_units); (case hb => first | assumption | omega); (case hc => first | assumption | omega); (case h0 => first | assumption | omega); (case h1 => first | assumption | omega); (case hk => omega); (case hk5 => omega)); intro b9 t9 h9 tk9 hb9 F9 N9; (try dsimp only); (try k_fold); (try k_sweep))
          have heq : b9.toList = bT.toList := ints_inj (by rw [hb9, hTb, hR, hA])
          have hts : bT.size = row.length := by rw [← KBw.ints_length, hTb]; exact filtF_length ..
          have hTb2 : KBw.bInts bT = filtF ((i : Nat) : Int) row (KBw.bInts bA) st := by rw [hA]; exact hTb
          have hAs : bA.size = row.length := by rw [← KBw.ints_length, hA, hAl]
          (k_steps; repeat (any_goals ((refine unheld ?_; first | ((with_reducible show wpAny _ _ (PySem.call (Value.ref 130) [Value.ref _]) _ _ _); k_dflt (refine' octet_call _ _ _ _ _ _ _ _ _ ?zUz ?zh0z ?zhb0z ?zhbz _ _ _ _ _ _ _ _ _ _ _ _ _ _ _ _ _ _ _ _ ?zkBz ?zkFz ?zkXz ?zkNz ?zkTz ?zkkz ?zkdz ?zkuz ?_; (case zkBz => k_asm); (case zkFz => k_asm); (case zkXz => k_asm); (case zkNz => k_asm); (case zkTz => k_asm); (case zkkz => first | exact rfl | assumption); (case zkdz => ktr_room); (case zkuz => ktr_units); (case zUz => k_updF); (case zh0z => assumption); (case zhb0z => assumption); (case zhbz => assumption)); intro zr9z zt9z zh9z ztk9z za9z zb9z zta9z ztb9z zhr0z zhr1z zha0z zhb0z zhb1z zF9z zN9z; (try dsimp only at zN9z); (try dsimp only); (try k_fold); (try k_sweep)) | ((with_reducible show wpAny _ _ (PySem.call (Value.ref 104) [Value.ref _, Value.int _ _]) _ _ _); k_dflt (refine' take_use _ _ _ _ _ _ _ _ _ _ _ ?zUz ?zh0z ?zhb0z ?zhbz ?zhtz ?zhttz _ _ _ _ _ _ _ _ _ _ _ _ _ _ _ _ _ _ _ _ ?zkBz ?zkFz ?zkXz ?zkNz ?zkTz ?zkkz ?zkdz ?zkuz ?_; (case zkBz => k_asm); (case zkFz => k_asm); (case zkXz => k_asm); (case zkNz => k_asm); (case zkTz => k_asm); (case zkkz => first | exact rfl | assumption); (case zkdz => ktr_room); (case zkuz => ktr_units); (case zUz => k_updF); (case zh0z => assumption); (case zhb0z => assumption); (case zhbz => assumption); (case zhtz => decide); (case zhttz => decide)); intro zr9z zt9z zh9z ztk9z za9z zb9z zta9z ztb9z zhr0z zhr1z zha0z zhb0z zhb1z zF9z zN9z; (try dsimp only at zN9z); (try dsimp only); (try k_fold); (try k_sweep)) | ((with_reducible show wpAny _ _ (PySem.call (Value.ref 137) [Value.int _ _, Value.bytes _ _, Value.bytes _ _, Value.int _ _]) _ _ _); k_dflt (refine' due_call _ _ _ _ _ _ _ _ _ _ _ _ ?zhbIz ?zhcIz ?zhbz ?zhcz ?zh0z ?zh1z ?zhkz ?zhk5z _ _ _ _ _ _ _ _ _ _ _ _ _ _ _ _ _ _ _ _ ?zkBz ?zkFz ?zkXz ?zkNz ?zkTz ?zkkz ?zkdz ?zkuz ?_; (case zkBz => k_asm); (case zkFz => k_asm); (case zkXz => k_asm); (case zkNz => k_asm); (case zkTz => k_asm); (case zkkz => first | exact rfl | assumption); (case zkdz => ktr_room); (case zkuz => ktr_units); (case zhbIz => assumption); (case zhcIz => assumption); (case zhbz => omega); (case zhcz => omega); (case zh0z => omega); (case zh1z => omega); (case zhkz => omega); (case zhk5z => omega)); intro zb9z zt9z zh9z ztk9z zhb9z zF9z zN9z; (try dsimp only); (try k_fold); (try k_sweep)) | ((with_reducible show wpAny _ _ (PySem.call (Value.ref 83) [Value.bytes _ _]) _ _ _); k_dflt (refine' weight_call _ _ _ _ ?zhbz _ _ _ _ _ _ _ _ _ _ _ _ _ _ _ _ _ _ _ _ ?zkBz ?zkFz ?zkXz ?zkNz ?zkTz ?zkkz ?zkdz ?zkuz ?_; (case zkBz => k_asm); (case zkFz => k_asm); (case zkXz => k_asm); (case zkNz => k_asm); (case zkTz => k_asm); (case zkkz => first | exact rfl | assumption); (case zkdz => ktr_room); (case zkuz => ktr_units); (case zhbz => assumption)); intro zt9z zh9z ztk9z zF9z zN9z; (try dsimp only); (try k_fold); (try k_sweep)) | ((with_reducible show wpAny _ _ (PySem.call (Value.ref 142) [Value.bytes _ _]) _ _ _); k_dflt (refine' lweight_call _ _ _ _ ?zhbz _ _ _ _ _ _ _ _ _ _ _ _ _ _ _ _ _ _ _ _ ?zkBz ?zkFz ?zkXz ?zkNz ?zkTz ?zkkz ?zkdz ?zkuz ?_; (case zkBz => k_asm); (case zkFz => k_asm); (case zkXz => k_asm); (case zkNz => k_asm); (case zkTz => k_asm); (case zkkz => first | exact rfl | assumption); (case zkdz => ktr_room); (case zkuz => ktr_units); (case zhbz => assumption)); intro zt9z zh9z ztk9z zF9z zN9z; (try dsimp only); (try k_fold); (try k_sweep))); (try k_steps))))
          · exact absurd (by assumption : (b9.toList != bT.toList) = true) (by simp [heq])
          refine wpN_isTrue_Compare1 (CallN ?_)
          (k_steps; repeat (any_goals ((refine unheld ?_; first | ((with_reducible show wpAny _ _ (PySem.call (Value.ref 130) [Value.ref _]) _ _ _); k_dflt (refine' octet_call _ _ _ _ _ _ _ _ _ ?zUz ?zh0z ?zhb0z ?zhbz _ _ _ _ _ _ _ _ _ _ _ _ _ _ _ _ _ _ _ _ ?zkBz ?zkFz ?zkXz ?zkNz ?zkTz ?zkkz ?zkdz ?zkuz ?_; (case zkBz => k_asm); (case zkFz => k_asm); (case zkXz => k_asm); (case zkNz => k_asm); (case zkTz => k_asm); (case zkkz => first | exact rfl | assumption); (case zkdz => ktr_room); (case zkuz => ktr_units); (case zUz => k_updF); (case zh0z => assumption); (case zhb0z => assumption); (case zhbz => assumption)); intro zr9z zt9z zh9z ztk9z za9z zb9z zta9z ztb9z zhr0z zhr1z zha0z zhb0z zhb1z zF9z zN9z; (try dsimp only at zN9z); (try dsimp only); (try k_fold); (try k_sweep)) | ((with_reducible show wpAny _ _ (PySem.call (Value.ref 104) [Value.ref _, Value.int _ _]) _ _ _); k_dflt (refine' take_use _ _ _ _ _ _ _ _ _ _ _ ?zUz ?zh0z ?zhb0z ?zhbz ?zhtz ?zhttz _ _ _ _ _ _ _ _ _ _ _ _ _ _ _ _ _ _ _ _ ?zkBz ?zkFz ?zkXz ?zkNz ?zkTz ?zkkz ?zkdz ?zkuz ?_; (case zkBz => k_asm); (case zkFz => k_asm); (case zkXz => k_asm); (case zkNz => k_asm); (case zkTz => k_asm); (case zkkz => first | exact rfl | assumption); (case zkdz => ktr_room); (case zkuz => ktr_units); (case zUz => k_updF); (case zh0z => assumption); (case zhb0z => assumption); (case zhbz => assumption); (case zhtz => decide); (case zhttz => decide)); intro zr9z zt9z zh9z ztk9z za9z zb9z zta9z ztb9z zhr0z zhr1z zha0z zhb0z zhb1z zF9z zN9z; (try dsimp only at zN9z); (try dsimp only); (try k_fold); (try k_sweep)) | ((with_reducible show wpAny _ _ (PySem.call (Value.ref 137) [Value.int _ _, Value.bytes _ _, Value.bytes _ _, Value.int _ _]) _ _ _); k_dflt (refine' due_call _ _ _ _ _ _ _ _ _ _ _ _ ?zhbIz ?zhcIz ?zhbz ?zhcz ?zh0z ?zh1z ?zhkz ?zhk5z _ _ _ _ _ _ _ _ _ _ _ _ _ _ _ _ _ _ _ _ ?zkBz ?zkFz ?zkXz ?zkNz ?zkTz ?zkkz ?zkdz ?zkuz ?_; (case zkBz => k_asm); (case zkFz => k_asm); (case zkXz => k_asm); (case zkNz => k_asm); (case zkTz => k_asm); (case zkkz => first | exact rfl | assumption); (case zkdz => ktr_room); (case zkuz => ktr_units); (case zhbIz => assumption); (case zhcIz => assumption); (case zhbz => omega); (case zhcz => omega); (case zh0z => omega); (case zh1z => omega); (case zhkz => omega); (case zhk5z => omega)); intro zb9z zt9z zh9z ztk9z zhb9z zF9z zN9z; (try dsimp only); (try k_fold); (try k_sweep)) | ((with_reducible show wpAny _ _ (PySem.call (Value.ref 83) [Value.bytes _ _]) _ _ _); k_dflt (refine' weight_call _ _ _ _ ?zhbz _ _ _ _ _ _ _ _ _ _ _ _ _ _ _ _ _ _ _ _ ?zkBz ?zkFz ?zkXz ?zkNz ?zkTz ?zkkz ?zkdz ?zkuz ?_; (case zkBz => k_asm); (case zkFz => k_asm); (case zkXz => k_asm); (case zkNz => k_asm); (case zkTz => k_asm); (case zkkz => first | exact rfl | assumption); (case zkdz => ktr_room); (case zkuz => ktr_units); (case zhbz => assumption)); intro zt9z zh9z ztk9z zF9z zN9z; (try dsimp only); (try k_fold); (try k_sweep)) | ((with_reducible show wpAny _ _ (PySem.call (Value.ref 142) [Value.bytes _ _]) _ _ _); k_dflt (refine' lweight_call _ _ _ _ ?zhbz _ _ _ _ _ _ _ _ _ _ _ _ _ _ _ _ _ _ _ _ ?zkBz ?zkFz ?zkXz ?zkNz ?zkTz ?zkkz ?zkdz ?zkuz ?_; (case zkBz => k_asm); (case zkFz => k_asm); (case zkXz => k_asm); (case zkNz => k_asm); (case zkTz => k_asm); (case zkkz => first | exact rfl | assumption); (case zkdz => ktr_room); (case zkuz => ktr_units); (case zhbz => assumption)); intro zt9z zh9z ztk9z zF9z zN9z; (try dsimp only); (try k_fold); (try k_sweep))); (try k_steps))))
          refine callWithN_K (K := hd.heap_39 w.params) (by k_is) ?_
          (k_steps; repeat (any_goals ((refine unheld ?_; first | ((with_reducible show wpAny _ _ (PySem.call (Value.ref 130) [Value.ref _]) _ _ _); k_dflt (refine' octet_call _ _ _ _ _ _ _ _ _ ?zUz ?zh0z ?zhb0z ?zhbz _ _ _ _ _ _ _ _ _ _ _ _ _ _ _ _ _ _ _ _ ?zkBz ?zkFz ?zkXz ?zkNz ?zkTz ?zkkz ?zkdz ?zkuz ?_; (case zkBz => k_asm); (case zkFz => k_asm); (case zkXz => k_asm); (case zkNz => k_asm); (case zkTz => k_asm); (case zkkz => first | exact rfl | assumption); (case zkdz => ktr_room); (case zkuz => ktr_units); (case zUz => k_updF); (case zh0z => assumption); (case zhb0z => assumption); (case zhbz => assumption)); intro zr9z zt9z zh9z ztk9z za9z zb9z zta9z ztb9z zhr0z zhr1z zha0z zhb0z zhb1z zF9z zN9z; (try dsimp only at zN9z); (try dsimp only); (try k_fold); (try k_sweep)) | ((with_reducible show wpAny _ _ (PySem.call (Value.ref 104) [Value.ref _, Value.int _ _]) _ _ _); k_dflt (refine' take_use _ _ _ _ _ _ _ _ _ _ _ ?zUz ?zh0z ?zhb0z ?zhbz ?zhtz ?zhttz _ _ _ _ _ _ _ _ _ _ _ _ _ _ _ _ _ _ _ _ ?zkBz ?zkFz ?zkXz ?zkNz ?zkTz ?zkkz ?zkdz ?zkuz ?_; (case zkBz => k_asm); (case zkFz => k_asm); (case zkXz => k_asm); (case zkNz => k_asm); (case zkTz => k_asm); (case zkkz => first | exact rfl | assumption); (case zkdz => ktr_room); (case zkuz => ktr_units); (case zUz => k_updF); (case zh0z => assumption); (case zhb0z => assumption); (case zhbz => assumption); (case zhtz => decide); (case zhttz => decide)); intro zr9z zt9z zh9z ztk9z za9z zb9z zta9z ztb9z zhr0z zhr1z zha0z zhb0z zhb1z zF9z zN9z; (try dsimp only at zN9z); (try dsimp only); (try k_fold); (try k_sweep)) | ((with_reducible show wpAny _ _ (PySem.call (Value.ref 137) [Value.int _ _, Value.bytes _ _, Value.bytes _ _, Value.int _ _]) _ _ _); k_dflt (refine' due_call _ _ _ _ _ _ _ _ _ _ _ _ ?zhbIz ?zhcIz ?zhbz ?zhcz ?zh0z ?zh1z ?zhkz ?zhk5z _ _ _ _ _ _ _ _ _ _ _ _ _ _ _ _ _ _ _ _ ?zkBz ?zkFz ?zkXz ?zkNz ?zkTz ?zkkz ?zkdz ?zkuz ?_; (case zkBz => k_asm); (case zkFz => k_asm); (case zkXz => k_asm); (case zkNz => k_asm); (case zkTz => k_asm); (case zkkz => first | exact rfl | assumption); (case zkdz => ktr_room); (case zkuz => ktr_units); (case zhbIz => assumption); (case zhcIz => assumption); (case zhbz => omega); (case zhcz => omega); (case zh0z => omega); (case zh1z => omega); (case zhkz => omega); (case zhk5z => omega)); intro zb9z zt9z zh9z ztk9z zhb9z zF9z zN9z; (try dsimp only); (try k_fold); (try k_sweep)) | ((with_reducible show wpAny _ _ (PySem.call (Value.ref 83) [Value.bytes _ _]) _ _ _); k_dflt (refine' weight_call _ _ _ _ ?zhbz _ _ _ _ _ _ _ _ _ _ _ _ _ _ _ _ _ _ _ _ ?zkBz ?zkFz ?zkXz ?zkNz ?zkTz ?zkkz ?zkdz ?zkuz ?_; (case zkBz => k_asm); (case zkFz => k_asm); (case zkXz => k_asm); (case zkNz => k_asm); (case zkTz => k_asm); (case zkkz => first | exact rfl | assumption); (case zkdz => ktr_room); (case zkuz => ktr_units); (case zhbz => assumption)); intro zt9z zh9z ztk9z zF9z zN9z; (try dsimp only); (try k_fold); (try k_sweep)) | ((with_reducible show wpAny _ _ (PySem.call (Value.ref 142) [Value.bytes _ _]) _ _ _); k_dflt (refine' lweight_call _ _ _ _ ?zhbz _ _ _ _ _ _ _ _ _ _ _ _ _ _ _ _ _ _ _ _ ?zkBz ?zkFz ?zkXz ?zkNz ?zkTz ?zkkz ?zkdz ?zkuz ?_; (case zkBz => k_asm); (case zkFz => k_asm); (case zkXz => k_asm); (case zkNz => k_asm); (case zkTz => k_asm); (case zkkz => first | exact rfl | assumption); (case zkdz => ktr_room); (case zkuz => ktr_units); (case zhbz => assumption)); intro zt9z zh9z ztk9z zF9z zN9z; (try dsimp only); (try k_fold); (try k_sweep))); (try k_steps))))
          (k_dflt (refine' unfiltered_callN _ _ _ _ _ _ _ _ _ _ _ ?hb ?hc ?hrow ?hin ?h0 ?h1 ?hk ?hk5 _ _ _ _ _ _ _ _ _ _ _ _ _ _ _ _ _ _ _ _ ?kB ?kF ?kX ?kN ?kT ?kk ?kd ?ku ?_; (case kB => k_asm); (case kF => k_asm); (case kX => k_asm); (case kN => k_asm); (case kT => k_asm); (case kk => first | exact rfl | assumption); (case kd => ktr_room); (case ku => ktr_units); (case hb => first | assumption | omega); (case hc => first | assumption | omega); (case hrow => assumption); (case hin => assumption); (case h0 => first | assumption | omega); (case h1 => first | assumption | omega); (case hk => omega); (case hk5 => omega)); intro b10 t10 h10 tk10 hb10 F10 N10; (try dsimp only); (try k_fold); (try k_sweep))
          have heq2 : b10.toList = bR.toList := ints_inj (by rw [hb10, hR])
          (k_steps; repeat (any_goals ((refine unheld ?_; first | ((with_reducible show wpAny _ _ (PySem.call (Value.ref 130) [Value.ref _]) _ _ _); k_dflt (refine' octet_call _ _ _ _ _ _ _ _ _ ?zUz ?zh0z ?zhb0z ?zhbz _ _ _ _ _ _ _ _ _ _ _ _ _ _ _ _ _ _ _ _ ?zkBz ?zkFz ?zkXz ?zkNz ?zkTz ?zkkz ?zkdz ?zkuz ?_; (case zkBz => k_asm); (case zkFz => k_asm); (case zkXz => k_asm); (case zkNz => k_asm); (case zkTz => k_asm); (case zkkz => first | exact rfl | assumption); (case zkdz => ktr_room); (case zkuz => ktr_units); (case zUz => k_updF); (case zh0z => assumption); (case zhb0z => assumption); (case zhbz => assumption)); intro zr9z zt9z zh9z ztk9z za9z zb9z zta9z ztb9z zhr0z zhr1z zha0z zhb0z zhb1z zF9z zN9z; (try dsimp only at zN9z); (try dsimp only); (try k_fold); (try k_sweep)) | ((with_reducible show wpAny _ _ (PySem.call (Value.ref 104) [Value.ref _, Value.int _ _]) _ _ _); k_dflt (refine' take_use _ _ _ _ _ _ _ _ _ _ _ ?zUz ?zh0z ?zhb0z ?zhbz ?zhtz ?zhttz _ _ _ _ _ _ _ _ _ _ _ _ _ _ _ _ _ _ _ _ ?zkBz ?zkFz ?zkXz ?zkNz ?zkTz ?zkkz ?zkdz ?zkuz ?_; (case zkBz => k_asm); (case zkFz => k_asm); (case zkXz => k_asm); (case zkNz => k_asm); (case zkTz => k_asm); (case zkkz => first | exact rfl | assumption); (case zkdz => ktr_room); (case zkuz => ktr_units); (case zUz => k_updF); (case zh0z => assumption); (case zhb0z => assumption); (case zhbz => assumption); (case zhtz => decide); (case zhttz => decide)); intro zr9z zt9z zh9z ztk9z za9z zb9z zta9z ztb9z zhr0z zhr1z zha0z zhb0z zhb1z zF9z zN9z; (try dsimp only at zN9z); (try dsimp only); (try k_fold); (try k_sweep)) | ((with_reducible show wpAny _ _ (PySem.call (Value.ref 137) [Value.int _ _, Value.bytes _ _, Value.bytes _ _, Value.int _ _]) _ _ _); k_dflt (refine' due_call _ _ _ _ _ _ _ _ _ _ _ _ ?zhbIz ?zhcIz ?zhbz ?zhcz ?zh0z ?zh1z ?zhkz ?zhk5z _ _ _ _ _ _ _ _ _ _ _ _ _ _ _ _ _ _ _ _ ?zkBz ?zkFz ?zkXz ?zkNz ?zkTz ?zkkz ?zkdz ?zkuz ?_; (case zkBz => k_asm); (case zkFz => k_asm); (case zkXz => k_asm); (case zkNz => k_asm); (case zkTz => k_asm); (case zkkz => first | exact rfl | assumption); (case zkdz => ktr_room); (case zkuz => ktr_units); (case zhbIz => assumption); (case zhcIz => assumption); (case zhbz => omega); (case zhcz => omega); (case zh0z => omega); (case zh1z => omega); (case zhkz => omega); (case zhk5z => omega)); intro zb9z zt9z zh9z ztk9z zhb9z zF9z zN9z; (try dsimp only); (try k_fold); (try k_sweep)) | ((with_reducible show wpAny _ _ (PySem.call (Value.ref 83) [Value.bytes _ _]) _ _ _); k_dflt (refine' weight_call _ _ _ _ ?zhbz _ _ _ _ _ _ _ _ _ _ _ _ _ _ _ _ _ _ _ _ ?zkBz ?zkFz ?zkXz ?zkNz ?zkTz ?zkkz ?zkdz ?zkuz ?_; (case zkBz => k_asm); (case zkFz => k_asm); (case zkXz => k_asm); (case zkNz => k_asm); (case zkTz => k_asm); (case zkkz => first | exact rfl | assumption); (case zkdz => ktr_room); (case zkuz => ktr_units); (case zhbz => assumption)); intro zt9z zh9z ztk9z zF9z zN9z; (try dsimp only); (try k_fold); (try k_sweep)) | ((with_reducible show wpAny _ _ (PySem.call (Value.ref 142) [Value.bytes _ _]) _ _ _); k_dflt (refine' lweight_call _ _ _ _ ?zhbz _ _ _ _ _ _ _ _ _ _ _ _ _ _ _ _ _ _ _ _ ?zkBz ?zkFz ?zkXz ?zkNz ?zkTz ?zkkz ?zkdz ?zkuz ?_; (case zkBz => k_asm); (case zkFz => k_asm); (case zkXz => k_asm); (case zkNz => k_asm); (case zkTz => k_asm); (case zkkz => first | exact rfl | assumption); (case zkdz => ktr_room); (case zkuz => ktr_units); (case zhbz => assumption)); intro zt9z zh9z ztk9z zF9z zN9z; (try dsimp only); (try k_fold); (try k_sweep))); (try k_steps))))
          · exact absurd (by assumption : (b10.toList != bR.toList) = true) (by simp [heq2])
          refine .of (wpAny_execs_nil (.of (wpAny_execs_nil (hQ8 _ _ ⟨rfl, _, _, _, rfl, F10, N10, ?_⟩))))
          intro y hy
          simp only [List.mem_cons, List.not_mem_nil, or_false] at hy
          simp only [hy, if_false]
        · obtain ⟨x1, rfl⟩ := off1 hoff
          clear hoff
          refine wpN_execs_A ?_
          (k_steps; repeat (any_goals ((refine unheld ?_; first | ((with_reducible show wpAny _ _ (PySem.call (Value.ref 130) [Value.ref _]) _ _ _); k_dflt (refine' octet_call _ _ _ _ _ _ _ _ _ ?zUz ?zh0z ?zhb0z ?zhbz _ _ _ _ _ _ _ _ _ _ _ _ _ _ _ _ _ _ _ _ ?zkBz ?zkFz ?zkXz ?zkNz ?zkTz ?zkkz ?zkdz ?zkuz ?_; (case zkBz => k_asm); (case zkFz => k_asm); (case zkXz => k_asm); (case zkNz => k_asm); (case zkTz => k_asm); (case zkkz => first | exact rfl | assumption); (case zkdz => ktr_room); (case zkuz => ktr_units); (case zUz => k_updF); (case zh0z => assumption); (case zhb0z => assumption); (case zhbz => assumption)); intro zr9z zt9z zh9z ztk9z za9z zb9z zta9z ztb9z zhr0z zhr1z zha0z zhb0z zhb1z zF9z zN9z; (try dsimp only at zN9z); (try dsimp only); (try k_fold); (try k_sweep)) | ((with_reducible show wpAny _ _ (PySem.call (Value.ref 104) [Value.ref _, Value.int _ _]) _ _ _); k_dflt (refine' take_use _ _ _ _ _ _ _ _ _ _ _ ?zUz ?zh0z ?zhb0z ?zhbz ?zhtz ?zhttz _ _ _ _ _ _ _ _ _ _ _ _ _ _ _ _ _ _ _ _ ?zkBz ?zkFz ?zkXz ?zkNz ?zkTz ?zkkz ?zkdz ?zkuz ?_; (case zkBz => k_asm); (case zkFz => k_asm); (case zkXz => k_asm); (case zkNz => k_asm); (case zkTz => k_asm); (case zkkz => first | exact rfl | assumption); (case zkdz => ktr_room); (case zkuz => ktr_units); (case zUz => k_updF); (case zh0z => assumption); (case zhb0z => assumption); (case zhbz => assumption); (case zhtz => decide); (case zhttz => decide)); intro zr9z zt9z zh9z ztk9z za9z zb9z zta9z ztb9z zhr0z zhr1z zha0z zhb0z zhb1z zF9z zN9z; (try dsimp only at zN9z); (try dsimp only); (try k_fold); (try k_sweep)) | ((with_reducible show wpAny _ _ (PySem.call (Value.ref 137) [Value.int _ _, Value.bytes _ _, Value.bytes _ _, Value.int _ _]) _ _ _); k_dflt (refine' due_call _ _ _ _ _ _ _ _ _ _ _ _ ?zhbIz ?zhcIz ?zhbz ?zhcz ?zh0z ?zh1z ?zhkz ?zhk5z _ _ _ _ _ _ _ _ _ _ _ _ _ _ _ _ _ _ _ _ ?zkBz ?zkFz ?zkXz ?zkNz ?zkTz ?zkkz ?zkdz ?zkuz ?_; (case zkBz => k_asm); (case zkFz => k_asm); (case zkXz => k_asm); (case zkNz => k_asm); (case zkTz => k_asm); (case zkkz => first | exact rfl | assumption); (case zkdz => ktr_room); (case zkuz => ktr_units); (case zhbIz => assumption); (case zhcIz => assumption); (case zhbz => omega); (case zhcz => omega); (case zh0z => omega); (case zh1z => omega); (case zhkz => omega); (case zhk5z => omega)); intro zb9z zt9z zh9z ztk9z zhb9z zF9z zN9z; (try dsimp only); (try k_fold); (try k_sweep)) | ((with_reducible show wpAny _ _ (PySem.call (Value.ref 83) [Value.bytes _ _]) _ _ _); k_dflt (refine' weight_call _ _ _ _ ?zhbz _ _ _ _ _ _ _ _ _ _ _ _ _ _ _ _ _ _ _ _ ?zkBz ?zkFz ?zkXz ?zkNz ?zkTz ?zkkz ?zkdz ?zkuz ?_; (case zkBz => k_asm); (case zkFz => k_asm); (case zkXz => k_asm); (case zkNz => k_asm); (case zkTz => k_asm); (case zkkz => first | exact rfl | assumption); (case zkdz => ktr_room); (case zkuz => ktr_units); (case zhbz => assumption)); intro zt9z zh9z ztk9z zF9z zN9z; (try dsimp only); (try k_fold); (try k_sweep)) | ((with_reducible show wpAny _ _ (PySem.call (Value.ref 142) [Value.bytes _ _]) _ _ _); k_dflt (refine' lweight_call _ _ _ _ ?zhbz _ _ _ _ _ _ _ _ _ _ _ _ _ _ _ _ _ _ _ _ ?zkBz ?zkFz ?zkXz ?zkNz ?zkTz ?zkkz ?zkdz ?zkuz ?_; (case zkBz => k_asm); (case zkFz => k_asm); (case zkXz => k_asm); (case zkNz => k_asm); (case zkTz => k_asm); (case zkkz => first | exact rfl | assumption); (case zkdz => ktr_room); (case zkuz => ktr_units); (case zhbz => assumption)); intro zt9z zh9z ztk9z zF9z zN9z; (try dsimp only); (try k_fold); (try k_sweep))); (try k_steps))))
          refine ints_goal rfl (by k_asm) (by k_asm) (.head _) ?_ (fun i => wSum (filtF (i : Int) row ahead st)) (fun i v ys2 I oI C oC D2 m₂ h tk E' hi hv hC hx F N off ne => ?_) (fun g ws hW => ?_)
          · have := hT.1
            simp only [List.size_toArray]; omega
          · clear hret
            have hi5 : i < 5 := by
              have := hT.1
              simp only [List.size_toArray] at hi; omega
            obtain ⟨bT, tT, hTi, hTb⟩ := hT.2 i hi5
            obtain rfl : v = .bytes bT tT := by
              have : ys[i]? = some v := by simpa using hv
              rw [hTi] at this; exact (Option.some.inj this).symm
            have hts : bT.size ≤ 1000 := by rw [← KBw.ints_length, hTb]; simp only [filtF_length]; omega
            have off2 := off
            simp only [LCg.Off3] at off2
            repeat (have h9 := off2.1.1; have h9 := off2.1.2.1; have h9 := off2.1.2.2; replace off2 := off2.2)
            have h9 := ne.1; have h9 := ne.2.1; have h9 := ne.2.2; clear ne
            refine postA fun Q8 E8 hQ8 hE8 => ?_
            (k_steps; repeat (any_goals ((refine unheld ?_; first | ((with_reducible show wpAny _ _ (PySem.call (Value.ref 130) [Value.ref _]) _ _ _); k_dflt (refine' octet_call _ _ _ _ _ _ _ _ _ ?zUz ?zh0z ?zhb0z ?zhbz _ _ _ _ _ _ _ _ _ _ _ _ _ _ _ _ _ _ _ _ ?zkBz ?zkFz ?zkXz ?zkNz ?zkTz ?zkkz ?zkdz ?zkuz ?_; (case zkBz => k_asm); (case zkFz => k_asm); (case zkXz => k_asm); (case zkNz => k_asm); (case zkTz => k_asm); (case zkkz => first | exact rfl | assumption); (case zkdz => ktr_room); (case zkuz => ktr_units); (case zUz => k_updF); (case zh0z => assumption); (case zhb0z => assumption); (case zhbz => assumption)); intro zr9z zt9z zh9z ztk9z za9z zb9z zta9z ztb9z zhr0z zhr1z zha0z zhb0z zhb1z zF9z zN9z; (try dsimp only at zN9z); (try dsimp only); (try k_fold); (try k_sweep)) | ((with_reducible show wpAny _ _ (PySem.call (Value.ref 104) [Value.ref _, Value.int _ _]) _ _ _); k_dflt (refine' take_use _ _ _ _ _ _ _ _ _ _ _ ?zUz ?zh0z ?zhb0z ?zhbz ?zhtz ?zhttz _ _ _ _ _ _ _ _ _ _ _ _ _ _ _ _ _ _ _ _ ?zkBz ?zkFz ?zkXz ?zkNz ?zkTz ?zkkz ?zkdz ?zkuz ?_; (case zkBz => k_asm); (case zkFz => k_asm); (case zkXz => k_asm); (case zkNz => k_asm); (case zkTz => k_asm); (case zkkz => first | exact rfl | assumption); (case zkdz => ktr_room); (case zkuz => ktr_units); (case zUz => k_updF); (case zh0z => assumption); (case zhb0z => assumption); (case zhbz => assumption); (case zhtz => decide); (case zhttz => decide)); intro zr9z zt9z zh9z ztk9z za9z zb9z zta9z ztb9z zhr0z zhr1z zha0z zhb0z zhb1z zF9z zN9z; (try dsimp only at zN9z); (try dsimp only); (try k_fold); (try k_sweep)) | ((with_reducible show wpAny _ _ (PySem.call (Value.ref 137) [Value.int _ _, Value.bytes _ _, Value.bytes _ _, Value.int _ _]) _ _ _); k_dflt (refine' due_call _ _ _ _ _ _ _ _ _ _ _ _ ?zhbIz ?zhcIz ?zhbz ?zhcz ?zh0z ?zh1z ?zhkz ?zhk5z _ _ _ _ _ _ _ _ _ _ _ _ _ _ _ _ _ _ _ _ ?zkBz ?zkFz ?zkXz ?zkNz ?zkTz ?zkkz ?zkdz ?zkuz ?_; (case zkBz => k_asm); (case zkFz => k_asm); (case zkXz => k_asm); (case zkNz => k_asm); (case zkTz => k_asm); (case zkkz => first | exact rfl | assumption); (case zkdz => ktr_room); (case zkuz => ktr_units); (case zhbIz => assumption); (case zhcIz => assumption); (case zhbz => omega); (case zhcz => omega); (case zh0z => omega); (case zh1z => omega); (case zhkz => omega); (case zhk5z => omega)); intro zb9z zt9z zh9z ztk9z zhb9z zF9z zN9z; (try dsimp only); (try k_fold); (try k_sweep)) | ((with_reducible show wpAny _ _ (PySem.call (Value.ref 83) [Value.bytes _ _]) _ _ _); k_dflt (refine' weight_call _ _ _ _ ?zhbz _ _ _ _ _ _ _ _ _ _ _ _ _ _ _ _ _ _ _ _ ?zkBz ?zkFz ?zkXz ?zkNz ?zkTz ?zkkz ?zkdz ?zkuz ?_; (case zkBz => k_asm); (case zkFz => k_asm); (case zkXz => k_asm); (case zkNz => k_asm); (case zkTz => k_asm); (case zkkz => first | exact rfl | assumption); (case zkdz => ktr_room); (case zkuz => ktr_units); (case zhbz => assumption)); intro zt9z zh9z ztk9z zF9z zN9z; (try dsimp only); (try k_fold); (try k_sweep)) | ((with_reducible show wpAny _ _ (PySem.call (Value.ref 142) [Value.bytes _ _]) _ _ _); k_dflt (refine' lweight_call _ _ _ _ ?zhbz _ _ _ _ _ _ _ _ _ _ _ _ _ _ _ _ _ _ _ _ ?zkBz ?zkFz ?zkXz ?zkNz ?zkTz ?zkkz ?zkdz ?zkuz ?_; (case zkBz => k_asm); (case zkFz => k_asm); (case zkXz => k_asm); (case zkNz => k_asm); (case zkTz => k_asm); (case zkkz => first | exact rfl | assumption); (case zkdz => ktr_room); (case zkuz => ktr_units); (case zhbz => assumption)); intro zt9z zh9z ztk9z zF9z zN9z; (try dsimp only); (try k_fold); (try k_sweep))); (try k_steps))))
            rename News _ _ _ _ => kN9
            rename Fr _ _ _ _ => kF9
            refine hQ8 _ _ (LCg.CompEnd.intro kF9 kN9 _ (fun p hp => hp) off (.head _) ⟨rfl, _, congrArg (Value.int · _) (weightF_eq hTb)⟩)
          · unfold LCg.FinA
            intro D2 h tk F N off
            have off2 := off
            simp only [LCg.Off1] at off2
            repeat (have h9 := off2.1; replace off2 := off2.2)
            obtain ⟨wl, hwl⟩ : ∃ wl : List Int, wl = (List.range 5).map (fun i => wSum (filtF ((i : Nat) : Int) row ahead st)) := ⟨_, rfl⟩
            have hW2 : IntsAre ws wl := by
              have e : ys.toArray.size = 5 := by simpa using hT.1
              rw [e] at hW; rw [hwl]; exact hW
            have hwll : wl.length = 5 := by rw [hwl]; rfl
            refine wpN_execs_A ?_
            (k_steps; repeat (any_goals ((refine unheld ?_; first | ((with_reducible show wpAny _ _ (PySem.call (Value.ref 130) [Value.ref _]) _ _ _); k_dflt (refine' octet_call _ _ _ _ _ _ _ _ _ ?zUz ?zh0z ?zhb0z ?zhbz _ _ _ _ _ _ _ _ _ _ _ _ _ _ _ _ _ _ _ _ ?zkBz ?zkFz ?zkXz ?zkNz ?zkTz ?zkkz ?zkdz ?zkuz ?_; (case zkBz => k_asm); (case zkFz => k_asm); (case zkXz => k_asm); (case zkNz => k_asm); (case zkTz => k_asm); (case zkkz => first | exact rfl | assumption); (case zkdz => ktr_room); (case zkuz => ktr_units); (case zUz => k_updF); (case zh0z => assumption); (case zhb0z => assumption); (case zhbz => assumption)); intro zr9z zt9z zh9z ztk9z za9z zb9z zta9z ztb9z zhr0z zhr1z zha0z zhb0z zhb1z zF9z zN9z; (try dsimp only at zN9z); (try dsimp only); (try k_fold); (try k_sweep)) | ((with_reducible show wpAny _ _ (PySem.call (Value.ref 104) [Value.ref _, Value.int _ _]) _ _ _); k_dflt (refine' take_use _ _ _ _ _ _ _ _ _ _ _ ?zUz ?zh0z ?zhb0z ?zhbz ?zhtz ?zhttz _ _ _ _ _ _ _ _ _ _ _ _ _ _ _ _ _ _ _ _ ?zkBz ?zkFz ?zkXz ?zkNz ?zkTz ?zkkz ?zkdz ?zkuz ?_; (case zkBz => k_asm); (case zkFz => k_asm); (case zkXz => k_asm); (case zkNz => k_asm); (case zkTz => k_asm); (case zkkz => first | exact rfl | assumption); (case zkdz => ktr_room); (case zkuz => ktr_units); (case zUz => k_updF); (case zh0z => assumption); (case zhb0z => assumption); (case zhbz => assumption); (case zhtz => decide); (case zhttz => decide)); intro zr9z zt9z zh9z ztk9z za9z zb9z zta9z ztb9z zhr0z zhr1z zha0z zhb0z zhb1z zF9z zN9z; (try dsimp only at zN9z); (try dsimp only); (try k_fold); (try k_sweep)) | ((with_reducible show wpAny _ _ (PySem.call (Value.ref 137) [Value.int _ _, Value.bytes _ _, Value.bytes _ _, Value.int _ _]) _ _ _); k_dflt (refine' due_call _ _ _ _ _ _ _ _ _ _ _ _ ?zhbIz ?zhcIz ?zhbz ?zhcz ?zh0z ?zh1z ?zhkz ?zhk5z _ _ _ _ _ _ _ _ _ _ _ _ _ _ _ _ _ _ _ _ ?zkBz ?zkFz ?zkXz ?zkNz ?zkTz ?zkkz ?zkdz ?zkuz ?_; (case zkBz => k_asm); (case zkFz => k_asm); (case zkXz => k_asm); (case zkNz => k_asm); (case zkTz => k_asm); (case zkkz => first | exact rfl | assumption); (case zkdz => ktr_room); (case zkuz => ktr_units); (case zhbIz => assumption); (case zhcIz => assumption); (case zhbz => omega); (case zhcz => omega); (case zh0z => omega); (case zh1z => omega); (case zhkz => omega); (case zhk5z => omega)); intro zb9z zt9z zh9z ztk9z zhb9z zF9z zN9z; (try dsimp only); (try k_fold); (try k_sweep)) | ((with_reducible show wpAny _ _ (PySem.call (Value.ref 83) [Value.bytes _ _]) _ _ _); k_dflt (refine' weight_call _ _ _ _ ?zhbz _ _ _ _ _ _ _ _ _ _ _ _ _ _ _ _ _ _ _ _ ?zkBz ?zkFz ?zkXz ?zkNz ?zkTz ?zkkz ?zkdz ?zkuz ?_; (case zkBz => k_asm); (case zkFz => k_asm); (case zkXz => k_asm); (case zkNz => k_asm); (case zkTz => k_asm); (case zkkz => first | exact rfl | assumption); (case zkdz => ktr_room); (case zkuz => ktr_units); (case zhbz => assumption)); intro zt9z zh9z ztk9z zF9z zN9z; (try dsimp only); (try k_fold); (try k_sweep)) | ((with_reducible show wpAny _ _ (PySem.call (Value.ref 142) [Value.bytes _ _]) _ _ _); k_dflt (refine' lweight_call _ _ _ _ ?zhbz _ _ _ _ _ _ _ _ _ _ _ _ _ _ _ _ _ _ _ _ ?zkBz ?zkFz ?zkXz ?zkNz ?zkTz ?zkkz ?zkdz ?zkuz ?_; (case zkBz => k_asm); (case zkFz => k_asm); (case zkXz => k_asm); (case zkNz => k_asm); (case zkTz => k_asm); (case zkkz => first | exact rfl | assumption); (case zkdz => ktr_room); (case zkuz => ktr_units); (case zhbz => assumption)); intro zt9z zh9z ztk9z zF9z zN9z; (try dsimp only); (try k_fold); (try k_sweep))); (try k_steps))))
            refine wpN_execs_cons (wpN_Return (And2N ?_))
            (k_steps; repeat (any_goals ((refine unheld ?_; first | ((with_reducible show wpAny _ _ (PySem.call (Value.ref 130) [Value.ref _]) _ _ _); k_dflt (refine' octet_call _ _ _ _ _ _ _ _ _ ?zUz ?zh0z ?zhb0z ?zhbz _ _ _ _ _ _ _ _ _ _ _ _ _ _ _ _ _ _ _ _ ?zkBz ?zkFz ?zkXz ?zkNz ?zkTz ?zkkz ?zkdz ?zkuz ?_; (case zkBz => k_asm); (case zkFz => k_asm); (case zkXz => k_asm); (case zkNz => k_asm); (case zkTz => k_asm); (case zkkz => first | exact rfl | assumption); (case zkdz => ktr_room); (case zkuz => ktr_units); (case zUz => k_updF); (case zh0z => assumption); (case zhb0z => assumption); (case zhbz => assumption)); intro zr9z zt9z zh9z ztk9z za9z zb9z zta9z ztb9z zhr0z zhr1z zha0z zhb0z zhb1z zF9z zN9z; (try dsimp only at zN9z); (try dsimp only); (try k_fold); (try k_sweep)) | ((with_reducible show wpAny _ _ (PySem.call (Value.ref 104) [Value.ref _, Value.int _ _]) _ _ _); k_dflt (refine' take_use _ _ _ _ _ _ _ _ _ _ _ ?zUz ?zh0z ?zhb0z ?zhbz ?zhtz ?zhttz _ _ _ _ _ _ _ _ _ _ _ _ _ _ _ _ _ _ _ _ ?zkBz ?zkFz ?zkXz ?zkNz ?zkTz ?zkkz ?zkdz ?zkuz ?_; (case zkBz => k_asm); (case zkFz => k_asm); (case zkXz => k_asm); (case zkNz => k_asm); (case zkTz => k_asm); (case zkkz => first | exact rfl | assumption); (case zkdz => ktr_room); (case zkuz => ktr_units); (case zUz => k_updF); (case zh0z => assumption); (case zhb0z => assumption); (case zhbz => assumption); (case zhtz => decide); (case zhttz => decide)); intro zr9z zt9z zh9z ztk9z za9z zb9z zta9z ztb9z zhr0z zhr1z zha0z zhb0z zhb1z zF9z zN9z; (try dsimp only at zN9z); (try dsimp only); (try k_fold); (try k_sweep)) | ((with_reducible show wpAny _ _ (PySem.call (Value.ref 137) [Value.int _ _, Value.bytes _ _, Value.bytes _ _, Value.int _ _]) _ _ _); k_dflt (refine' due_call _ _ _ _ _ _ _ _ _ _ _ _ ?zhbIz ?zhcIz ?zhbz ?zhcz ?zh0z ?zh1z ?zhkz ?zhk5z _ _ _ _ _ _ _ _ _ _ _ _ _ _ _ _ _ _ _ _ ?zkBz ?zkFz ?zkXz ?zkNz ?zkTz ?zkkz ?zkdz ?zkuz ?_; (case zkBz => k_asm); (case zkFz => k_asm); (case zkXz => k_asm); (case zkNz => k_asm); (case zkTz => k_asm); (case zkkz => first | exact rfl | assumption); (case zkdz => ktr_room); (case zkuz => ktr_units); (case zhbIz => assumption); (case zhcIz => assumption); (case zhbz => omega); (case zhcz => omega); (case zh0z => omega); (case zh1z => omega); (case zhkz => omega); (case zhk5z => omega)); intro zb9z zt9z zh9z ztk9z zhb9z zF9z zN9z; (try dsimp only); (try k_fold); (try k_sweep)) | ((with_reducible show wpAny _ _ (PySem.call (Value.ref 83) [Value.bytes _ _]) _ _ _); k_dflt (refine' weight_call _ _ _ _ ?zhbz _ _ _ _ _ _ _ _ _ _ _ _ _ _ _ _ _ _ _ _ ?zkBz ?zkFz ?zkXz ?zkNz ?zkTz ?zkkz ?zkdz ?zkuz ?_; (case zkBz => k_asm); (case zkFz => k_asm); (case zkXz => k_asm); (case zkNz => k_asm); (case zkTz => k_asm); (case zkkz => first | exact rfl | assumption); (case zkdz => ktr_room); (case zkuz => ktr_units); (case zhbz => assumption)); intro zt9z zh9z ztk9z zF9z zN9z; (try dsimp only); (try k_fold); (try k_sweep)) | ((with_reducible show wpAny _ _ (PySem.call (Value.ref 142) [Value.bytes _ _]) _ _ _); k_dflt (refine' lweight_call _ _ _ _ ?zhbz _ _ _ _ _ _ _ _ _ _ _ _ _ _ _ _ _ _ _ _ ?zkBz ?zkFz ?zkXz ?zkNz ?zkTz ?zkkz ?zkdz ?zkuz ?_; (case zkBz => k_asm); (case zkFz => k_asm); (case zkXz => k_asm); (case zkNz => k_asm); (case zkTz => k_asm); (case zkkz => first | exact rfl | assumption); (case zkdz => ktr_room); (case zkuz => ktr_units); (case zhbz => assumption)); intro zt9z zh9z ztk9z zF9z zN9z; (try dsimp only); (try k_fold); (try k_sweep))); (try k_steps))))
            refine ints_goal rfl (by k_asm) (by k_asm) (.tail _ (.head _)) ?_ (fun i => wSum (filtF (i : Int) row ahead st)) (fun i v ys2 I oI C oC D2 m₂ h tk E' hi hv hC hx F N off ne => ?_) (fun g vs3 hW3 => ?_)
            · have := hT.1
              simp only [List.size_toArray]; omega
            · clear hret
              have hi5 : i < 5 := by
                have := hT.1
                simp only [List.size_toArray] at hi; omega
              obtain ⟨bT, tT, hTi, hTb⟩ := hT.2 i hi5
              obtain rfl : v = .bytes bT tT := by
                have : ys[i]? = some v := by simpa using hv
                rw [hTi] at this; exact (Option.some.inj this).symm
              have hts : bT.size ≤ 1000 := by rw [← KBw.ints_length, hTb]; simp only [filtF_length]; omega
              have off2 := off
              simp only [LCg.Off3] at off2
              repeat (have h9 := off2.1.1; have h9 := off2.1.2.1; have h9 := off2.1.2.2; replace off2 := off2.2)
              have h9 := ne.1; have h9 := ne.2.1; have h9 := ne.2.2; clear ne
              refine postA fun Q8 E8 hQ8 hE8 => ?_
              (k_steps; repeat (any_goals ((refine unheld ?_; first | ((with_reducible show wpAny _ _ (PySem.call (Value.ref 130) [Value.ref _]) _ _ _); k_dflt (refine' octet_call _ _ _ _ _ _ _ _ _ ?zUz ?zh0z ?zhb0z ?zhbz _ _ _ _ _ _ _ _ _ _ _ _ _ _ _ _ _ _ _ _ ?zkBz ?zkFz ?zkXz ?zkNz ?zkTz ?zkkz ?zkdz ?zkuz ?_; (case zkBz => k_asm); (case zkFz => k_asm); (case zkXz => k_asm); (case zkNz => k_asm); (case zkTz => k_asm); (case zkkz => first | exact rfl | assumption); (case zkdz => ktr_room); (case zkuz => ktr_units); (case zUz => k_updF); (case zh0z => assumption); (case zhb0z => assumption); (case zhbz => assumption)); intro zr9z zt9z zh9z ztk9z za9z zb9z zta9z ztb9z zhr0z zhr1z zha0z zhb0z zhb1z zF9z zN9z; (try dsimp only at zN9z); (try dsimp only); (try k_fold); (try k_sweep)) | ((with_reducible show wpAny _ _ (PySem.call (Value.ref 104) [Value.ref _, Value.int _ _]) _ _ _); k_dflt (refine' take_use _ _ _ _ _ _ _ _ _ _ _ ?zUz ?zh0z ?zhb0z ?zhbz ?zhtz ?zhttz _ _ _ _ _ _ _ _ _ _ _ _ _ _ _ _ _ _ _ _ ?zkBz ?zkFz ?zkXz ?zkNz ?zkTz ?zkkz ?zkdz ?zkuz ?_; (case zkBz => k_asm); (case zkFz => k_asm); (case zkXz => k_asm); (case zkNz => k_asm); (case zkTz => k_asm); (case zkkz => first | exact rfl | assumption); (case zkdz => ktr_room); (case zkuz => ktr_units); (case zUz => k_updF); (case zh0z => assumption); (case zhb0z => assumption); (case zhbz => assumption); (case zhtz => decide); (case zhttz => decide)); intro zr9z zt9z zh9z ztk9z za9z zb9z zta9z ztb9z zhr0z zhr1z zha0z zhb0z zhb1z zF9z zN9z; (try dsimp only at zN9z); (try dsimp only); (try k_fold); (try k_sweep)) | ((with_reducible show wpAny _ _ (PySem.call (Value.ref 137) [Value.int _ _, Value.bytes _ _, Value.bytes _ _, Value.int _ _]) _ _ _); k_dflt (refine' due_call _ _ _ _ _ _ _ _ _ _ _ _ ?zhbIz ?zhcIz ?zhbz ?zhcz ?zh0z ?zh1z ?zhkz ?zhk5z _ _ _ _ _ _ _ _ _ _ _ _ _ _ _ _ _ _ _ _ ?zkBz ?zkFz ?zkXz ?zkNz ?zkTz ?zkkz ?zkdz ?zkuz ?_; (case zkBz => k_asm); (case zkFz => k_asm); (case zkXz => k_asm); (case zkNz => k_asm); (case zkTz => k_asm); (case zkkz => first | exact rfl | assumption); (case zkdz => ktr_room); (case zkuz => ktr_units); (case zhbIz => assumption); (case zhcIz => assumption); (case zhbz => omega); (case zhcz => omega); (case zh0z => omega); (case zh1z => omega); (case zhkz => omega); (case zhk5z => omega)); intro zb9z zt9z zh9z ztk9z zhb9z zF9z zN9z; (try dsimp only); (try k_fold); (try k_sweep)) | ((with_reducible show wpAny _ _ (PySem.call (Value.ref 83) [Value.bytes _ _]) _ _ _); k_dflt (refine' weight_call _ _ _ _ ?zhbz _ _ _ _ _ _ _ _ _ _ _ _ _ _ _ _ _ _ _ _ ?zkBz ?zkFz ?zkXz ?zkNz ?zkTz ?zkkz ?zkdz ?zkuz ?_; (case zkBz => k_asm); (case zkFz => k_asm); (case zkXz => k_asm); (case zkNz => k_asm); (case zkTz => k_asm); (case zkkz => first | exact rfl | assumption); (case zkdz => ktr_room); (case zkuz => ktr_units); (case zhbz => assumption)); intro zt9z zh9z ztk9z zF9z zN9z; (try dsimp only); (try k_fold); (try k_sweep)) | ((with_reducible show wpAny _ _ (PySem.call (Value.ref 142) [Value.bytes _ _]) _ _ _); k_dflt (refine' lweight_call _ _ _ _ ?zhbz _ _ _ _ _ _ _ _ _ _ _ _ _ _ _ _ _ _ _ _ ?zkBz ?zkFz ?zkXz ?zkNz ?zkTz ?zkkz ?zkdz ?zkuz ?_; (case zkBz => k_asm); (case zkFz => k_asm); (case zkXz => k_asm); (case zkNz => k_asm); (case zkTz => k_asm); (case zkkz => first | exact rfl | assumption); (case zkdz => ktr_room); (case zkuz => ktr_units); (case zhbz => assumption)); intro zt9z zh9z ztk9z zF9z zN9z; (try dsimp only); (try k_fold); (try k_sweep))); (try k_steps))))
              rename News _ _ _ _ => kN9
              rename Fr _ _ _ _ => kF9
              refine hQ8 _ _ (LCg.CompEnd.intro kF9 kN9 _ (fun p hp => hp) off (.tail _ (.head _)) ⟨rfl, _, congrArg (Value.int · _) (weightF_eq hTb)⟩)
            · unfold LCg.FinE
              intro D3 h tk F N off
              have off2 := off
              simp only [LCg.Off1] at off2
              repeat (have h9 := off2.1; replace off2 := off2.2)
              have hW4 : IntsAre vs3 wl := by
                have e : ys.toArray.size = 5 := by simpa using hT.1
                rw [e] at hW3; rw [hwl]; exact hW3
              rename _ = ((List.idxOf _ wl : Nat) : Int) => hx9
              subst hx9
              rename Int => Mx
              rename Mx ∈ wl => hMm
              rename ∀ a, a ∈ wl → Mx ≤ a => hMl
              have hix := bestK_idx hwl hMm hMl
              have hjin := bestK_in row ahead st 4
              obtain ⟨bT, tT, hTi, hTb⟩ := hT.2 (wl.idxOf Mx) (by omega)
              have hTi2 : ys[((wl.idxOf Mx : Nat) : Int).toNat]? = some (.bytes bT tT) := by simpa using hTi
              have hbs : bR.size ≤ 8 := by rw [← KBw.ints_length, hR]; omega
              have hbs2 : bA.size = bR.size := by rw [← KBw.ints_length, ← KBw.ints_length, hR, hA]; omega
              k_dflt (refine' nameX_L ?xF ?xv ?_ ?xa ?xb; (case xF => k_asm); (case xa => rfl); (case xb => rfl); (case xv => rfl))
              (try dsimp only)
              refine' eq_intsK (ns := wl) (ms := wl) ?k1 ?k2 ?k3 ?k4 ?k5 ?_
              case k1 => exact News.isList (by k_asm) (.head _)
              case k2 => exact hW4
              case k3 => exact News.isList (by k_asm) (.tail _ (.head _))
              case k4 => exact hW2
              case k5 => units_room
              rw [decide_eq_true rfl]
              (k_steps; repeat (any_goals ((refine unheld ?_; first | ((with_reducible show wpAny _ _ (PySem.call (Value.ref 130) [Value.ref _]) _ _ _); k_dflt (refine' octet_call _ _ _ _ _ _ _ _ _ ?zUz ?zh0z ?zhb0z ?zhbz _ _ _ _ _ _ _ _ _ _ _ _ _ _ _ _ _ _ _ _ ?zkBz ?zkFz ?zkXz ?zkNz ?zkTz ?zkkz ?zkdz ?zkuz ?_; (case zkBz => k_asm); (case zkFz => k_asm); (case zkXz => k_asm); (case zkNz => k_asm); (case zkTz => k_asm); (case zkkz => first | exact rfl | assumption); (case zkdz => ktr_room); (case zkuz => ktr_units); (case zUz => k_updF); (case zh0z => assumption); (case zhb0z => assumption); (case zhbz => assumption)); intro zr9z zt9z zh9z ztk9z za9z zb9z zta9z ztb9z zhr0z zhr1z zha0z zhb0z zhb1z zF9z zN9z; (try dsimp only at zN9z); (try dsimp only); (try k_fold); (try k_sweep)) | ((with_reducible show wpAny _ _ (PySem.call (Value.ref 104) [Value.ref _, Value.int _ _]) _ _ _); k_dflt (refine' take_use _ _ _ _ _ _ _ _ _ _ _ ?zUz ?zh0z ?zhb0z ?zhbz ?zhtz ?zhttz _ _ _ _ _ _ _ _ _ _ _ _ _ _ _ _ _ _ _ _ ?zkBz ?zkFz ?zkXz ?zkNz ?zkTz ?zkkz ?zkdz ?zkuz ?_; (case zkBz => k_asm); (case zkFz => k_asm); (case zkXz => k_asm); (case zkNz => k_asm); (case zkTz => k_asm); (case zkkz => first | exact rfl | assumption); (case zkdz => ktr_room); (case zkuz => ktr_units); (case zUz => k_updF); (case zh0z => assumption); (case zhb0z => assumption); (case zhbz => assumption); (case zhtz => decide); (case zhttz => decide)); intro zr9z zt9z zh9z ztk9z za9z zb9z zta9z ztb9z zhr0z zhr1z zha0z zhb0z zhb1z zF9z zN9z; (try dsimp only at zN9z); (try dsimp only); (try k_fold); (try k_sweep)) | ((with_reducible show wpAny _ _ (PySem.call (Value.ref 137) [Value.int _ _, Value.bytes _ _, Value.bytes _ _, Value.int _ _]) _ _ _); k_dflt (refine' due_call _ _ _ _ _ _ _ _ _ _ _ _ ?zhbIz ?zhcIz ?zhbz ?zhcz ?zh0z ?zh1z ?zhkz ?zhk5z _ _ _ _ _ _ _ _ _ _ _ _ _ _ _ _ _ _ _ _ ?zkBz ?zkFz ?zkXz ?zkNz ?zkTz ?zkkz ?zkdz ?zkuz ?_; (case zkBz => k_asm); (case zkFz => k_asm); (case zkXz => k_asm); (case zkNz => k_asm); (case zkTz => k_asm); (case zkkz => first | exact rfl | assumption); (case zkdz => ktr_room); (case zkuz => ktr_units); (case zhbIz => assumption); (case zhcIz => assumption); (case zhbz => omega); (case zhcz => omega); (case zh0z => omega); (case zh1z => omega); (case zhkz => omega); (case zhk5z => omega)); intro zb9z zt9z zh9z ztk9z zhb9z zF9z zN9z; (try dsimp only); (try k_fold); (try k_sweep)) | ((with_reducible show wpAny _ _ (PySem.call (Value.ref 83) [Value.bytes _ _]) _ _ _); k_dflt (refine' weight_call _ _ _ _ ?zhbz _ _ _ _ _ _ _ _ _ _ _ _ _ _ _ _ _ _ _ _ ?zkBz ?zkFz ?zkXz ?zkNz ?zkTz ?zkkz ?zkdz ?zkuz ?_; (case zkBz => k_asm); (case zkFz => k_asm); (case zkXz => k_asm); (case zkNz => k_asm); (case zkTz => k_asm); (case zkkz => first | exact rfl | assumption); (case zkdz => ktr_room); (case zkuz => ktr_units); (case zhbz => assumption)); intro zt9z zh9z ztk9z zF9z zN9z; (try dsimp only); (try k_fold); (try k_sweep)) | ((with_reducible show wpAny _ _ (PySem.call (Value.ref 142) [Value.bytes _ _]) _ _ _); k_dflt (refine' lweight_call _ _ _ _ ?zhbz _ _ _ _ _ _ _ _ _ _ _ _ _ _ _ _ _ _ _ _ ?zkBz ?zkFz ?zkXz ?zkNz ?zkTz ?zkkz ?zkdz ?zkuz ?_; (case zkBz => k_asm); (case zkFz => k_asm); (case zkXz => k_asm); (case zkNz => k_asm); (case zkTz => k_asm); (case zkkz => first | exact rfl | assumption); (case zkdz => ktr_room); (case zkuz => ktr_units); (case zhbz => assumption)); intro zt9z zh9z ztk9z zF9z zN9z; (try dsimp only); (try k_fold); (try k_sweep))); (try k_steps))))
              refine wpN_Compare1 (CallN ?_)
              (k_steps; repeat (any_goals ((refine unheld ?_; first | ((with_reducible show wpAny _ _ (PySem.call (Value.ref 130) [Value.ref _]) _ _ _); k_dflt (refine' octet_call _ _ _ _ _ _ _ _ _ ?zUz ?zh0z ?zhb0z ?zhbz _ _ _ _ _ _ _ _ _ _ _ _ _ _ _ _ _ _ _ _ ?zkBz ?zkFz ?zkXz ?zkNz ?zkTz ?zkkz ?zkdz ?zkuz ?_; (case zkBz => k_asm); (case zkFz => k_asm); (case zkXz => k_asm); (case zkNz => k_asm); (case zkTz => k_asm); (case zkkz => first | exact rfl | assumption); (case zkdz => ktr_room); (case zkuz => ktr_units); (case zUz => k_updF); (case zh0z => assumption); (case zhb0z => assumption); (case zhbz => assumption)); intro zr9z zt9z zh9z ztk9z za9z zb9z zta9z ztb9z zhr0z zhr1z zha0z zhb0z zhb1z zF9z zN9z; (try dsimp only at zN9z); (try dsimp only); (try k_fold); (try k_sweep)) | ((with_reducible show wpAny _ _ (PySem.call (Value.ref 104) [Value.ref _, Value.int _ _]) _ _ _); k_dflt (refine' take_use _ _ _ _ _ _ _ _ _ _ _ ?zUz ?zh0z ?zhb0z ?zhbz ?zhtz ?zhttz _ _ _ _ _ _ _ _ _ _ _ _ _ _ _ _ _ _ _ _ ?zkBz ?zkFz ?zkXz ?zkNz ?zkTz ?zkkz ?zkdz ?zkuz ?_; (case zkBz => k_asm); (case zkFz => k_asm); (case zkXz => k_asm); (case zkNz => k_asm); (case zkTz => k_asm); (case zkkz => first | exact rfl | assumption); (case zkdz => ktr_room); (case zkuz => ktr_units); (case zUz => k_updF); (case zh0z => assumption); (case zhb0z => assumption); (case zhbz => assumption); (case zhtz => decide); (case zhttz => decide)); intro zr9z zt9z zh9z ztk9z za9z zb9z zta9z ztb9z zhr0z zhr1z zha0z zhb0z zhb1z zF9z zN9z; (try dsimp only at zN9z); (try dsimp only); (try k_fold); (try k_sweep)) | ((with_reducible show wpAny _ _ (PySem.call (Value.ref 137) [Value.int _ _, Value.bytes _ _, Value.bytes _ _, Value.int _ _]) _ _ _); k_dflt (refine' due_call _ _ _ _ _ _ _ _ _ _ _ _ ?zhbIz ?zhcIz ?zhbz ?zhcz ?zh0z ?zh1z ?zhkz ?zhk5z _ _ _ _ _ _ _ _ _ _ _ _ _ _ _ _ _ _ _ _ ?zkBz ?zkFz ?zkXz ?zkNz ?zkTz ?zkkz ?zkdz ?zkuz ?_; (case zkBz => k_asm); (case zkFz => k_asm); (case zkXz => k_asm); (case zkNz => k_asm); (case zkTz => k_asm); (case zkkz => first | exact rfl | assumption); (case zkdz => ktr_room); (case zkuz => ktr_units); (case zhbIz => assumption); (case zhcIz => assumption); (case zhbz => omega); (case zhcz => omega); (case zh0z => omega); (case zh1z => omega); (case zhkz => omega); (case zhk5z => omega)); intro zb9z zt9z zh9z ztk9z zhb9z zF9z zN9z; (try dsimp only); (try k_fold); (try k_sweep)) | ((with_reducible show wpAny _ _ (PySem.call (Value.ref 83) [Value.bytes _ _]) _ _ _); k_dflt (refine' weight_call _ _ _ _ ?zhbz _ _ _ _ _ _ _ _ _ _ _ _ _ _ _ _ _ _ _ _ ?zkBz ?zkFz ?zkXz ?zkNz ?zkTz ?zkkz ?zkdz ?zkuz ?_; (case zkBz => k_asm); (case zkFz => k_asm); (case zkXz => k_asm); (case zkNz => k_asm); (case zkTz => k_asm); (case zkkz => first | exact rfl | assumption); (case zkdz => ktr_room); (case zkuz => ktr_units); (case zhbz => assumption)); intro zt9z zh9z ztk9z zF9z zN9z; (try dsimp only); (try k_fold); (try k_sweep)) | ((with_reducible show wpAny _ _ (PySem.call (Value.ref 142) [Value.bytes _ _]) _ _ _); k_dflt (refine' lweight_call _ _ _ _ ?zhbz _ _ _ _ _ _ _ _ _ _ _ _ _ _ _ _ _ _ _ _ ?zkBz ?zkFz ?zkXz ?zkNz ?zkTz ?zkkz ?zkdz ?zkuz ?_; (case zkBz => k_asm); (case zkFz => k_asm); (case zkXz => k_asm); (case zkNz => k_asm); (case zkTz => k_asm); (case zkkz => first | exact rfl | assumption); (case zkdz => ktr_room); (case zkuz => ktr_units); (case zhbz => assumption)); intro zt9z zh9z ztk9z zF9z zN9z; (try dsimp only); (try k_fold); (try k_sweep))); (try k_steps))))
              refine callWithN_K (K := hd.heap_39 w.params) (by k_is) ?_
              (k_steps; repeat (any_goals ((refine unheld ?_; first | ((with_reducible show wpAny _ _ (PySem.call (Value.ref 130) [Value.ref _]) _ _ _); k_dflt (refine' octet_call _ _ _ _ _ _ _ _ _ ?zUz ?zh0z ?zhb0z ?zhbz _ _ _ _ _ _ _ _ _ _ _ _ _ _ _ _ _ _ _ _ ?zkBz ?zkFz ?zkXz ?zkNz ?zkTz ?zkkz ?zkdz ?zkuz ?_; (case zkBz => k_asm); (case zkFz => k_asm); (case zkXz => k_asm); (case zkNz => k_asm); (case zkTz => k_asm); (case zkkz => first | exact rfl | assumption); (case zkdz => ktr_room); (case zkuz => ktr_units); (case zUz => k_updF); (case zh0z => assumption); (case zhb0z => assumption); (case zhbz => assumption)); intro zr9z zt9z zh9z ztk9z za9z zb9z zta9z ztb9z zhr0z zhr1z zha0z zhb0z zhb1z zF9z zN9z; (try dsimp only at zN9z); (try dsimp only); (try k_fold); (try k_sweep)) | ((with_reducible show wpAny _ _ (PySem.call (Value.ref 104) [Value.ref _, Value.int _ _]) _ _ _); k_dflt (refine' take_use _ _ _ _ _ _ _ _ _ _ _ ?zUz ?zh0z ?zhb0z ?zhbz ?zhtz ?zhttz _ _ _ _ _ _ _ _ _ _ _ _ _ _ _ _ _ _ _ _ ?zkBz ?zkFz ?zkXz ?zkNz ?zkTz ?zkkz ?zkdz ?zkuz ?_; (case zkBz => k_asm); (case zkFz => k_asm); (case zkXz => k_asm); (case zkNz => k_asm); (case zkTz => k_asm); (case zkkz => first | exact rfl | assumption); (case zkdz => ktr_room); (case zkuz => ktr_units); (case zUz => k_updF); (case zh0z => assumption); (case zhb0z => assumption); (case zhbz => assumption); (case zhtz => decide); (case zhttz => decide)); intro zr9z zt9z zh9z ztk9z za9z zb9z zta9z ztb9z zhr0z zhr1z zha0z zhb0z zhb1z zF9z zN9z; (try dsimp only at zN9z); (try dsimp only); (try k_fold); (try k_sweep)) | ((with_reducible show wpAny _ _ (PySem.call (Value.ref 137) [Value.int _ _, Value.bytes _ _, Value.bytes _ _, Value.int _ _]) _ _ _); k_dflt (refine' due_call _ _ _ _ _ _ _ _ _ _ _ _ ?zhbIz ?zhcIz ?zhbz ?zhcz ?zh0z ?zh1z ?zhkz ?zhk5z _ _ _ _ _ _ _ _ _ _ _ _ _ _ _ _ _ _ _ _ ?zkBz ?zkFz ?zkXz ?zkNz ?zkTz ?zkkz ?zkdz ?zkuz ?_; (case zkBz => k_asm); (case zkFz => k_asm); (case zkXz => k_asm); (case zkNz => k_asm); (case zkTz => k_asm); (case zkkz => first | exact rfl | assumption); (case zkdz => ktr_room); (case zkuz => ktr_units); (case zhbIz => assumption); (case zhcIz => assumption); (case zhbz => omega); (case zhcz => omega); (case zh0z => omega); (case zh1z => omega); (case zhkz => omega); (case zhk5z => omega)); intro zb9z zt9z zh9z ztk9z zhb9z zF9z zN9z; (try dsimp only); (try k_fold); (try k_sweep)) | ((with_reducible show wpAny _ _ (PySem.call (Value.ref 83) [Value.bytes _ _]) _ _ _); k_dflt (refine' weight_call _ _ _ _ ?zhbz _ _ _ _ _ _ _ _ _ _ _ _ _ _ _ _ _ _ _ _ ?zkBz ?zkFz ?zkXz ?zkNz ?zkTz ?zkkz ?zkdz ?zkuz ?_; (case zkBz => k_asm); (case zkFz => k_asm); (case zkXz => k_asm); (case zkNz => k_asm); (case zkTz => k_asm); (case zkkz => first | exact rfl | assumption); (case zkdz => ktr_room); (case zkuz => ktr_units); (case zhbz => assumption)); intro zt9z zh9z ztk9z zF9z zN9z; (try dsimp only); (try k_fold); (try k_sweep)) | ((with_reducible show wpAny _ _ (PySem.call (Value.ref 142) [Value.bytes _ _]) _ _ _); k_dflt (refine' lweight_call _ _ _ _ ?zhbz _ _ _ _ _ _ _ _ _ _ _ _ _ _ _ _ _ _ _ _ ?zkBz ?zkFz ?zkXz ?zkNz ?zkTz ?zkkz ?zkdz ?zkuz ?_; (case zkBz => k_asm); (case zkFz => k_asm); (case zkXz => k_asm); (case zkNz => k_asm); (case zkTz => k_asm); (case zkkz => first | exact rfl | assumption); (case zkdz => ktr_room); (case zkuz => ktr_units); (case zhbz => assumption)); intro zt9z zh9z ztk9z zF9z zN9z; (try dsimp only); (try k_fold); (try k_sweep))); (try k_steps))))
              (k_dflt (refine' best_callN _ _ _ _ _ _ _ _ _ _ ?hbI ?hcI ?hb ?hc ?h0 ?h1 _ _ _ _ _ _ _ _ _ _ _ _ _ _ _ _ _ _ _ _ ?kB ?kF ?kX ?kN ?kT ?kk ?kd ?ku ?_; (case kB => k_asm); (case kF => k_asm); (case kX => k_asm); (case kN => k_asm); (case kT => k_asm); (case kk => first | exact rfl | assumption); (case kd => ktr_room); (case ku => ktr_units); (case hbI => assumption); (case hcI => assumption); (case hb => first | assumption | omega); (case hc => first | assumption | omega); (case h0 => omega); (case h1 => omega)); intro T11 b11 tj11 tb11 h11 tk11 hb11 F11 N11; (try dsimp only); (try k_fold); (try k_sweep))
              have hixs : bestK row ahead st 4 = ((wl.idxOf Mx : Nat) : Int) := hix.symm
              have heq4 : b11.toList = bT.toList := ints_inj (by rw [hb11, hTb, hix])
              have hixl : wl.idxOf Mx < 5 := by omega
              clear hix hjin hTb hTi hMm hMl hb11 hwl hW hW2 hW3 hW4 hT
              generalize bestK row ahead st 4 = jb at *
              generalize List.idxOf Mx wl = ix at *
              have hixa : 0 ≤ ((ix : Nat) : Int) := by omega
              have hixb : ((ix : Nat) : Int) < 2 ^ 63 := by omega
              refine hold_ ?_
              (k_steps; repeat (any_goals ((refine unheld ?_; first | ((with_reducible show wpAny _ _ (PySem.call (Value.ref 130) [Value.ref _]) _ _ _); k_dflt (refine' octet_call _ _ _ _ _ _ _ _ _ ?zUz ?zh0z ?zhb0z ?zhbz _ _ _ _ _ _ _ _ _ _ _ _ _ _ _ _ _ _ _ _ ?zkBz ?zkFz ?zkXz ?zkNz ?zkTz ?zkkz ?zkdz ?zkuz ?_; (case zkBz => k_asm); (case zkFz => k_asm); (case zkXz => k_asm); (case zkNz => k_asm); (case zkTz => k_asm); (case zkkz => first | exact rfl | assumption); (case zkdz => ktr_room); (case zkuz => ktr_units); (case zUz => k_updF); (case zh0z => assumption); (case zhb0z => assumption); (case zhbz => assumption)); intro zr9z zt9z zh9z ztk9z za9z zb9z zta9z ztb9z zhr0z zhr1z zha0z zhb0z zhb1z zF9z zN9z; (try dsimp only at zN9z); (try dsimp only); (try k_fold); (try k_sweep)) | ((with_reducible show wpAny _ _ (PySem.call (Value.ref 104) [Value.ref _, Value.int _ _]) _ _ _); k_dflt (refine' take_use _ _ _ _ _ _ _ _ _ _ _ ?zUz ?zh0z ?zhb0z ?zhbz ?zhtz ?zhttz _ _ _ _ _ _ _ _ _ _ _ _ _ _ _ _ _ _ _ _ ?zkBz ?zkFz ?zkXz ?zkNz ?zkTz ?zkkz ?zkdz ?zkuz ?_; (case zkBz => k_asm); (case zkFz => k_asm); (case zkXz => k_asm); (case zkNz => k_asm); (case zkTz => k_asm); (case zkkz => first | exact rfl | assumption); (case zkdz => ktr_room); (case zkuz => ktr_units); (case zUz => k_updF); (case zh0z => assumption); (case zhb0z => assumption); (case zhbz => assumption); (case zhtz => decide); (case zhttz => decide)); intro zr9z zt9z zh9z ztk9z za9z zb9z zta9z ztb9z zhr0z zhr1z zha0z zhb0z zhb1z zF9z zN9z; (try dsimp only at zN9z); (try dsimp only); (try k_fold); (try k_sweep)) | ((with_reducible show wpAny _ _ (PySem.call (Value.ref 137) [Value.int _ _, Value.bytes _ _, Value.bytes _ _, Value.int _ _]) _ _ _); k_dflt (refine' due_call _ _ _ _ _ _ _ _ _ _ _ _ ?zhbIz ?zhcIz ?zhbz ?zhcz ?zh0z ?zh1z ?zhkz ?zhk5z _ _ _ _ _ _ _ _ _ _ _ _ _ _ _ _ _ _ _ _ ?zkBz ?zkFz ?zkXz ?zkNz ?zkTz ?zkkz ?zkdz ?zkuz ?_; (case zkBz => k_asm); (case zkFz => k_asm); (case zkXz => k_asm); (case zkNz => k_asm); (case zkTz => k_asm); (case zkkz => first | exact rfl | assumption); (case zkdz => ktr_room); (case zkuz => ktr_units); (case zhbIz => assumption); (case zhcIz => assumption); (case zhbz => omega); (case zhcz => omega); (case zh0z => omega); (case zh1z => omega); (case zhkz => omega); (case zhk5z => omega)); intro zb9z zt9z zh9z ztk9z zhb9z zF9z zN9z; (try dsimp only); (try k_fold); (try k_sweep)) | ((with_reducible show wpAny _ _ (PySem.call (Value.ref 83) [Value.bytes _ _]) _ _ _); k_dflt (refine' weight_call _ _ _ _ ?zhbz _ _ _ _ _ _ _ _ _ _ _ _ _ _ _ _ _ _ _ _ ?zkBz ?zkFz ?zkXz ?zkNz ?zkTz ?zkkz ?zkdz ?zkuz ?_; (case zkBz => k_asm); (case zkFz => k_asm); (case zkXz => k_asm); (case zkNz => k_asm); (case zkTz => k_asm); (case zkkz => first | exact rfl | assumption); (case zkdz => ktr_room); (case zkuz => ktr_units); (case zhbz => assumption)); intro zt9z zh9z ztk9z zF9z zN9z; (try dsimp only); (try k_fold); (try k_sweep)) | ((with_reducible show wpAny _ _ (PySem.call (Value.ref 142) [Value.bytes _ _]) _ _ _); k_dflt (refine' lweight_call _ _ _ _ ?zhbz _ _ _ _ _ _ _ _ _ _ _ _ _ _ _ _ _ _ _ _ ?zkBz ?zkFz ?zkXz ?zkNz ?zkTz ?zkkz ?zkdz ?zkuz ?_; (case zkBz => k_asm); (case zkFz => k_asm); (case zkXz => k_asm); (case zkNz => k_asm); (case zkTz => k_asm); (case zkkz => first | exact rfl | assumption); (case zkdz => ktr_room); (case zkuz => ktr_units); (case zhbz => assumption)); intro zt9z zh9z ztk9z zF9z zN9z; (try dsimp only); (try k_fold); (try k_sweep))); (try k_steps))))
              show wpAny _ _ (compareOp CmpOp.Eq (Value.ref T11) (Value.ref _)) _ _ _
              refine' tup_eqK ?t1 ?t2 ?t3 ?t4 ?t5 ?_
              case t1 => exact News.isTup (by k_asm) (.tail _ (.head _))
              case t2 => exact News.isTup (by k_asm) (.head _)
              case t3 => exact hixs
              case t4 => exact heq4
              case t5 => (refine Nat.lt_of_le_of_lt (Nat.le_add_right _ 64) ?_; units_room)
              (k_steps; repeat (any_goals ((refine unheld ?_; first | ((with_reducible show wpAny _ _ (PySem.call (Value.ref 130) [Value.ref _]) _ _ _); k_dflt (refine' octet_call _ _ _ _ _ _ _ _ _ ?zUz ?zh0z ?zhb0z ?zhbz _ _ _ _ _ _ _ _ _ _ _ _ _ _ _ _ _ _ _ _ ?zkBz ?zkFz ?zkXz ?zkNz ?zkTz ?zkkz ?zkdz ?zkuz ?_; (case zkBz => k_asm); (case zkFz => k_asm); (case zkXz => k_asm); (case zkNz => k_asm); (case zkTz => k_asm); (case zkkz => first | exact rfl | assumption); (case zkdz => ktr_room); (case zkuz => ktr_units); (case zUz => k_updF); (case zh0z => assumption); (case zhb0z => assumption); (case zhbz => assumption)); intro zr9z zt9z zh9z ztk9z za9z zb9z zta9z ztb9z zhr0z zhr1z zha0z zhb0z zhb1z zF9z zN9z; (try dsimp only at zN9z); (try dsimp only); (try k_fold); (try k_sweep)) | ((with_reducible show wpAny _ _ (PySem.call (Value.ref 104) [Value.ref _, Value.int _ _]) _ _ _); k_dflt (refine' take_use _ _ _ _ _ _ _ _ _ _ _ ?zUz ?zh0z ?zhb0z ?zhbz ?zhtz ?zhttz _ _ _ _ _ _ _ _ _ _ _ _ _ _ _ _ _ _ _ _ ?zkBz ?zkFz ?zkXz ?zkNz ?zkTz ?zkkz ?zkdz ?zkuz ?_; (case zkBz => k_asm); (case zkFz => k_asm); (case zkXz => k_asm); (case zkNz => k_asm); (case zkTz => k_asm); (case zkkz => first | exact rfl | assumption); (case zkdz => ktr_room); (case zkuz => ktr_units); (case zUz => k_updF); (case zh0z => assumption); (case zhb0z => assumption); (case zhbz => assumption); (case zhtz => decide); (case zhttz => decide)); intro zr9z zt9z zh9z ztk9z za9z zb9z zta9z ztb9z zhr0z zhr1z zha0z zhb0z zhb1z zF9z zN9z; (try dsimp only at zN9z); (try dsimp only); (try k_fold); (try k_sweep)) | ((with_reducible show wpAny _ _ (PySem.call (Value.ref 137) [Value.int _ _, Value.bytes _ _, Value.bytes _ _, Value.int _ _]) _ _ _); k_dflt (refine' due_call _ _ _ _ _ _ _ _ _ _ _ _ ?zhbIz ?zhcIz ?zhbz ?zhcz ?zh0z ?zh1z ?zhkz ?zhk5z _ _ _ _ _ _ _ _ _ _ _ _ _ _ _ _ _ _ _ _ ?zkBz ?zkFz ?zkXz ?zkNz ?zkTz ?zkkz ?zkdz ?zkuz ?_; (case zkBz => k_asm); (case zkFz => k_asm); (case zkXz => k_asm); (case zkNz => k_asm); (case zkTz => k_asm); (case zkkz => first | exact rfl | assumption); (case zkdz => ktr_room); (case zkuz => ktr_units); (case zhbIz => assumption); (case zhcIz => assumption); (case zhbz => omega); (case zhcz => omega); (case zh0z => omega); (case zh1z => omega); (case zhkz => omega); (case zhk5z => omega)); intro zb9z zt9z zh9z ztk9z zhb9z zF9z zN9z; (try dsimp only); (try k_fold); (try k_sweep)) | ((with_reducible show wpAny _ _ (PySem.call (Value.ref 83) [Value.bytes _ _]) _ _ _); k_dflt (refine' weight_call _ _ _ _ ?zhbz _ _ _ _ _ _ _ _ _ _ _ _ _ _ _ _ _ _ _ _ ?zkBz ?zkFz ?zkXz ?zkNz ?zkTz ?zkkz ?zkdz ?zkuz ?_; (case zkBz => k_asm); (case zkFz => k_asm); (case zkXz => k_asm); (case zkNz => k_asm); (case zkTz => k_asm); (case zkkz => first | exact rfl | assumption); (case zkdz => ktr_room); (case zkuz => ktr_units); (case zhbz => assumption)); intro zt9z zh9z ztk9z zF9z zN9z; (try dsimp only); (try k_fold); (try k_sweep)) | ((with_reducible show wpAny _ _ (PySem.call (Value.ref 142) [Value.bytes _ _]) _ _ _); k_dflt (refine' lweight_call _ _ _ _ ?zhbz _ _ _ _ _ _ _ _ _ _ _ _ _ _ _ _ _ _ _ _ ?zkBz ?zkFz ?zkXz ?zkNz ?zkTz ?zkkz ?zkdz ?zkuz ?_; (case zkBz => k_asm); (case zkFz => k_asm); (case zkXz => k_asm); (case zkNz => k_asm); (case zkTz => k_asm); (case zkkz => first | exact rfl | assumption); (case zkdz => ktr_room); (case zkuz => ktr_units); (case zhbz => assumption)); intro zt9z zh9z ztk9z zF9z zN9z; (try dsimp only); (try k_fold); (try k_sweep))); (try k_steps))))
              rename Fr _ _ _ _ => kF9
              exact hret _ _ kF9
end
end Mine
end
section
namespace Mine
open PyProof.Rows.LCg
section
variable {prog : Program} {w : World} {A : Around} {E : Value → Shared → Prop} {s : Shared} {env : Env} {h₀ : Heap} {x : Str} {xp : Pos} {body : List Stmt} {Q : Flow → Shared → Prop}
abbrev lawLed (src c1 c2 c3 c4 : Addr) (a b : Int) (ta tb : Tok) (o1 o2 o3 o4 : Obj) : List (Addr × Obj) := [(src, poolObj a b ta tb 0), (c1, o1), (c2, o2), (c3, o3), (c4, o4)]
/-- the law's six turns: the pool and three cells change -/
theorem lawLoop {r src c1 c2 c3 c4 : Addr} {n : Nat} {many a b : Int} {ta tb t₀ u₀ v₀ : Tok} {o1 o2 o3 o4 : Obj} {v1 v2 v3 : Option Value} {m₀ : Str → Option Value}
    (hh : A.handled = none) (hr : IsRange s.heap r 0 many 1 t₀ u₀ v₀) (hm : many = (n : Int)) (hn : n ≤ 1000) (F : Fr h₀ env.locals s.heap m₀) (N : News h₀ env.locals s.heap (lawLed src c1 c2 c3 c4 a b ta tb o1 o2 o3 o4))
    (d1 : o1.data = .cell v1) (d2 : o2.data = .cell v2) (d3 : o3.data = .cell v3) (ha : 0 ≤ a) (hb : 0 ≤ b) (hb1 : b < 2147483647)
    (step : ∀ (i : Nat) t m₁ a b ta tb (o1 o2 o3 : Obj) v1 v2 v3 h₁ tk₁ I oI, i < n → o1.data = .cell v1 → o2.data = .cell v2 → o3.data = .cell v3 → 0 ≤ a → 0 ≤ b → b < 2147483647 → (∀ y, y ∉ [x] → m₁ y = m₀ y) →
      ((@Ne Nat I src) ∧ (@Ne Nat I c1) ∧ (@Ne Nat I c2) ∧ (@Ne Nat I c3) ∧ (@Ne Nat I c4)) → Fr h₀ env.locals h₁ m₁ → News h₀ env.locals h₁ ((I, oI) :: lawLed src c1 c2 c3 c4 a b ta tb o1 o2 o3 o4) →
      wpAny (model prog w) A (assign (.Name x xp) env (.int (i : Int) t)) (fun _ s₃ => wpAny (model prog w) A (execs body env)
        (fun f s' => JoinPost f (∃ h' tk' m' a b ta tb o1 o2 o3 v1 v2 v3, s' = { s with heap := h', toks := tk' } ∧ o1.data = .cell v1 ∧ o2.data = .cell v2 ∧ o3.data = .cell v3 ∧ 0 ≤ a ∧ 0 ≤ b ∧ b < 2147483647 ∧ (∀ y, y ∉ [x] → m' y = m₀ y) ∧
          Fr h₀ env.locals h' m' ∧ News h₀ env.locals h' ((I, oI) :: lawLed src c1 c2 c3 c4 a b ta tb o1 o2 o3 o4))) E s₃) E { s with heap := h₁, toks := tk₁ })
    (done : ∀ h' tk m' a b ta tb (o1 o2 o3 : Obj) v1 v2 v3, o1.data = .cell v1 → o2.data = .cell v2 → o3.data = .cell v3 → 0 ≤ a → 0 ≤ b → b < 2147483647 → (∀ y, y ∉ [x] → m' y = m₀ y) → Fr h₀ env.locals h' m' →
      News h₀ env.locals h' (lawLed src c1 c2 c3 c4 a b ta tb o1 o2 o3 o4) → Q .next { s with heap := h', toks := tk }) :
    wpAny (model prog w) A (pyIter (.ref r)) (fun it s₂ => TurnsAt prog w A h₀ env (.Name x xp) body Q E it s₂) E s := by
  subst hm
  refine rangeJ hh hr (range_small hn) (range_size n) F N [x] (fun _ l => ∃ (a b : Int) (ta tb : Tok) (o1 o2 o3 : Obj) (v1 v2 v3 : Option Value), l = lawLed src c1 c2 c3 c4 a b ta tb o1 o2 o3 o4 ∧ o1.data = .cell v1 ∧ o2.data = .cell v2 ∧ o3.data = .cell v3 ∧ 0 ≤ a ∧ 0 ≤ b ∧ b < 2147483647)
    ⟨a, b, ta, tb, o1, o2, o3, v1, v2, v3, rfl, d1, d2, d3, ha, hb, hb1⟩ ?_ ?_
  · rintro i t m₁ _ h₁ tk₁ I oI hi ⟨a, b, ta, tb, o1, o2, o3, v1, v2, v3, rfl, d1, d2, d3, ha, hb, hb1⟩ hoff hne F₁ N₁
    have q1 := (hne _ (.head _)).symm
    have q2 := (hne _ (.tail _ (.head _))).symm
    have q3 := (hne _ (.tail _ (.tail _ (.head _)))).symm
    have q4 := (hne _ (.tail _ (.tail _ (.tail _ (.head _))))).symm
    have q5 := (hne _ (.tail _ (.tail _ (.tail _ (.tail _ (.head _)))))).symm
    refine wpAny_mono (step i t m₁ a b ta tb o1 o2 o3 v1 v2 v3 h₁ tk₁ I oI hi d1 d2 d3 ha hb hb1 hoff ⟨q1, q2, q3, q4, q5⟩ F₁ N₁) (fun _ s₃ h3 => wpAny_mono h3 (fun f s' h4 => ?_) fun _ _ x => x) fun _ _ x => x
    obtain ⟨e, h', tk', m', a, b, ta, tb, o1, o2, o3, v1, v2, v3, e2, d1, d2, d3, ha, hb, hb1, off', F', N'⟩ := h4
    refine ⟨e, h', tk', m', _, e2, F', N', fun p hp => ?_, off', a, b, ta, tb, o1, o2, o3, v1, v2, v3, rfl, d1, d2, d3, ha, hb, hb1⟩
    simp only [List.mem_cons, List.not_mem_nil, or_false] at hp
    rcases hp with rfl | rfl | rfl | rfl | rfl
    · exact Ne.symm q1
    · exact Ne.symm q2
    · exact Ne.symm q3
    · exact Ne.symm q4
    · exact Ne.symm q5
  · rintro h' tk m' _ F' N' off' ⟨a, b, ta, tb, o1, o2, o3, v1, v2, v3, rfl, d1, d2, d3, ha, hb, hb1⟩
    exact done h' tk m' a b ta tb o1 o2 o3 v1 v2 v3 d1 d2 d3 ha hb hb1 off' F' N'
end
section
variable {prog : Program} {w : World} {A : Around} {E : Value → Shared → Prop} {s : Shared} {env : Env} {h₀ : Heap} {L : Addr} {m : Str → Option Value} {x : Str}
/-- ints over range(n), the ledger as it stood -/
theorem rangeInts_goal {elt : Expr} {scope : Scope} {cl : List (Str × Addr)} {Fin : Shared → List Value → List (Addr × Obj) → Prop} {r : Addr} {many : Int} {t u v : Tok} {n : Nat} {news : List (Addr × Obj)} {s₁ : Shared}
    (hh : A.handled = none) (hr : IsRange s₁.heap r 0 many 1 t u v) (hm : many = (n : Int)) (h2 : n ≤ 1000) (F : Fr h₀ L s₁.heap m) (N : News h₀ L s₁.heap news) (f : Int → Int)
    (turn : ∀ (i : Nat) (t' : Tok) ys I oI C oC D m₂ h tk (E' : Value → Shared → Prop), i < n → NsObj oC m₂ → m₂ x = some (.int (i : Int) t') → Fr h₀ L h m → News h₀ L h ((I, oI) :: (C, oC) :: (D, lst ys) :: news) → Off3 I C D news → ((@Ne Nat I C) ∧ (@Ne Nat I D) ∧ (@Ne Nat C D)) →
      wpAny (model prog w) A (eval elt (compEnvC scope cl C env)) (CompEnd h₀ L m { s₁ with heap := h, toks := tk } I oI C oC D (lst ys) (fun _ => True) (fun y nw' => nw' = news ∧ ∃ t, y = .int (f i) t)) E' { s₁ with heap := h, toks := tk })
    (fin : ∀ g ys, IntsAre ys ((List.range n).map fun i : Nat => f (i : Int)) → Fin { s₁ with heap := g } ys news) : CGoal prog w A h₀ L m env elt x scope cl Fin (.ref r) s₁ := by
  subst hm
  refine ⟨_, n, _, news, src_range hh hr (range_small (by omega)) (range_size _), (by rw [PySem.sizeLine_eq]; omega), F, N, True.intro, fun g => ?_⟩
  refine cgoal_rest (fun i ys nw => nw = news ∧ IntsAre ys ((List.range i).map fun i : Nat => f (i : Int))) ⟨rfl, .nil⟩ ?_ (fun ys nw h => h.1 ▸ fin g ys h.2)
  rintro i v ys nw I oI C oC D m₂ h tk E' hi ⟨t', rfl⟩ ⟨rfl, hys⟩ hC hx F' N' off ne
  refine wpAny_mono (turn i t' ys I oI C oC D m₂ h tk E' hi hC (by rw [hx]; simp) F' N' off ne) (fun y s₂ hq => ?_) fun _ _ x => x
  obtain ⟨h', tk', nw', e, F'', N'', off', hS, rfl, tb, rfl⟩ := hq
  refine ⟨h', tk', _, e, F'', N'', off', hS, rfl, ?_⟩
  rw [List.range_succ, List.map_append]
  exact hys.append (.cons _ _ .nil)
end
end Mine
end
section
open PySem PySem.W PyProof.Rows PySem.Calls
namespace Mine
open Builtin Builtin.ObjectAttr
/-- what stands above the class that is raised: one own class, then the built-in ones -/
abbrev upOf (U : Addr) : List Value := [.ref U, .type "Exception", .type "BaseException", .type "object"]
/-- what is made of it, its arguments the tuple at t -/
abbrev madeObj (C t : Addr) (dx : Option Addr) : Obj := { cls := .ref C, dict := dx, data := .fields #[.ref t, .none, .none, .none, .bool false, .none] }
abbrev argTup (vs : List Value) : Obj := { cls := .type "tuple", data := .seq vs.toArray }
section
variable {prog : Program} {w : World} {A : Around} {E : Value → Shared → Prop} {R : Result → Shared → Prop} {h : Heap} {g : Array GenState} {d : Drawn} {t : Nat} {os : OsState}
variable {nm q : Str} {C N U : Addr} {bs : List Value} {sn : List Str} {sub : List Value} {col : Option Bool} {dd : Option Addr} {k0 k1 k2 k3 k5 : Option Value} {v : Value}
/-- Exception.__new__ makes it -/
theorem ex_new (hC : h.get? C = some (excClassObj nm q C N bs (upOf U) true sn sub false col dd k0 k1 k2 k3 k5 "Exception.__new__"))
    (hq : R (.ok (.ret (.ref (h.objs.size + 1)))) ⟨(h.push (argTup [v])).push (madeObj C h.objs.size none), g, d, t, os⟩) :
    codeAny (model prog w) A (.call (.builtin "Exception.__new__") ⟨[.ref C, v], []⟩) R ⟨h, g, d, t, os⟩ := by
  have F := PySem.F.excBase_Exception
  have star := F.noStar
  have ends := F.ends
  have isIn : (Value.ref C :: upOf U).contains (.type "Exception") = true := rfl
  have noA : (Value.ref C :: upOf U).contains (.type "AttributeError") = false := rfl
  have noN : (Value.ref C :: upOf U).contains (.type "NameError") = false := rfl
  refine codeAny_call_builtin_code (Code.quiet_builtin _ F.quiet) ?_
  simp only [checkBuiltinCall, F.newKind, F.newSplit, F.newRow]
  repeat (first | refine wpAny_loadPart_at hC ?_ | (refine wpAny_isSubtype_exc hC ?_; rw [isIn]) | refine wpAny_staticBase_exc hC ?_ | refine wpAny_madeBy_exc hC ?_ | simp only [bne_self_eq_false, Bool.false_eq_true, if_false] | wp_step)
  refine codeAny_builtinAt F.entry ?_
  unfold Builtin.«BaseException.__new__»
  refine PySem.wpAt_bind ?_
  show PySem.wpAt _ _ _ (stack >>= _) _ _ _
  refine PySem.wpAt_bind (PySem.wpAt_stack fun p below => PySem.wpAt_of_wpAny ?_)
  wp_walk
  refine PySem.wpAt_of_wpAny ?_
  rw [F.owner]
  repeat (first | with_reducible refine wpAny_madeHere_exc F.canon hC ?_ | with_reducible refine wpAny_loadPart_at hC ?_ | (with_reducible refine wpAny_isSubtype_exc hC ?_; first | rw [isIn] | rw [noA] | rw [noN]) | wp_step)
  show R _ _
  rw [Heap.size_push]
  exact hq
/-- the call of the class: it is made, then its own `__init__` is called -/
theorem ex_make {f : Addr} (hC : h.get? C = some (excClassObj nm q C N bs (upOf U) true sn sub false col dd k0 k1 k2 k3 k5 "Exception.__new__"))
    (hi : Looks (model prog w) h (typeLookup (.ref C) "__init__") (some (.ref f))) (hb : ∀ self, Looks (model prog w) h (bindSpecial (.ref f) self) (.ref f, [self]))
    (hq : codeAny (model prog w) (A.under (.builtin "type.__call__" ⟨[.ref C, v], []⟩)) (.call (.ref f) ⟨[.ref (h.objs.size + 1), v], []⟩) (InitBack (h.objs.size + 1) R)
      ⟨(h.push (argTup [v])).push (madeObj C h.objs.size none), g, d, t, os⟩) : codeAny (model prog w) A (.call (.ref C) ⟨[v], []⟩) R ⟨h, g, d, t, os⟩ := by
  have k : ∀ b o, h.get? b = some o → ((h.push (argTup [v])).push (madeObj C h.objs.size none)).get? b = some o := fun b o e => Heap.get?_push_of_some _ (Heap.get?_push_of_some _ e)
  have hC' := k _ _ hC
  have he : ((h.push (argTup [v])).push (madeObj C h.objs.size none)).get? (h.objs.size + 1) = some (madeObj C h.objs.size none) := by heap_get
  have own : (Value.ref C :: upOf U).contains (.ref C) = true := by simp
  have f1 := tc_lookup
  have f2 := tc_bind (.ref C)
  have hT : (⟨h, g, d, t, os⟩ : Shared).TypeIs (.ref C) "type" := ⟨_, hC, rfl⟩
  refine codeAny_of_tree ?_
  show wpAny _ _ (callAny (.ref C) _) _ _ _
  repeat (any_goals (first | assumption | with_reducible refine wpAny_loadPart_at hC ?_ | wp_step))
  refine ⟨rfl, codeAny_call_builtin_at (Code.quiet_builtin _ (by decide +kernel)) entry_typeCall (wpAny_check_type_call_sub hC ?_)⟩
  repeat (first | with_reducible refine wpAny_loadPart_at hC ?_ | with_reducible refine wpAny_madeBy_exc hC ?_ | wp_step)
  refine ex_new hC ?_
  show wpAny _ _ _ _ _ _
  unfold isInstance
  repeat (first | with_reducible refine wpAny_loadPart_at he ?_ | (with_reducible refine wpAny_isSubtype_exc hC' ?_; rw [own]) | wp_step)
  show wpAny _ _ (typeLookup (.ref C) _) _ _ _
  refine (hi.keeps k).here ?_
  dsimp only
  refine wpAny_holding (wpAny_bind ?_)
  refine ((hb _).keeps k).here ?_
  dsimp only
  refine wpAny_bind (wpAny_call ?_)
  refine codeAny_mono hq fun r s' z => ?_
  rcases r with e | (v | _ | _ | _) <;> first | exact z | exact z.elim | skip
  obtain ⟨rfl, z⟩ := z
  wp_walk
  exact z
end
end Mine
end
section
open PySem PySem.W PyProof.Rows PySem.Calls
namespace Mine
open Builtin Builtin.ObjectAttr
section
variable {prog : Program} {w : World} {A : Around} {E : Value → Shared → Prop} {s : Shared} {K : Frag} {C U e t : Addr} {cd : ClassData} {name : Str} {v : Value}
/-- a first attribute of its own is stored -/
theorem ex_store {Q : Unit → Shared → Prop} (X : K.In s.heap) (hc : clsIn K C = some cd) (hm : cd.mro = .ref C :: upOf U) (hd : cd.hasDict = true)
    (hs : findIn K (.ref C) "__setattr__" = some (some (.builtin "object.__setattr__"))) (hn : findIn K (.ref C) name = some none)
    (he : s.heap.get? e = some (madeObj C t none))
    (hq : ∀ h' tk dx, h'.get? e = some (madeObj C t (some dx)) → (∀ b o, b ≠ e → s.heap.get? b = some o → h'.get? b = some o) → Q () { s with heap := h', toks := tk }) :
    wpAny (model prog w) A (setAttr (.ref e) name v) Q E s := by
  obtain ⟨h, g, d, tk, os⟩ := s
  dsimp only at X he hq
  have SF := PySem.F.store_Exception
  have type : Looks (model prog w) h (typeOf (.ref e)) (.ref C) := (Looks.ld he).andThen .now
  have data : Looks (model prog w) h (classData C) cd := looks_clsIn X hc
  have mro : Looks (model prog w) h (mroOf (.ref C)) (.ref C :: upOf U) := by rw [← hm]; exact data.andThen .now
  have obj : Looks (model prog w) h (isInstance (.ref e) (.type "object")) true :=
    type.andThen (looks_mroIn X (by unfold mroIn; rw [hc, Option.bind_some, hm]; rfl))
  have set := looks_findIn (M := model prog w) X hs
  have not := looks_findIn (M := model prog w) X hn
  unfold setAttr callSpecial? specialOf
  refine wpAny_bind (wpAny_mkText (wpAny_bind (wpAny_bind (wpAny_bind (type.at (set.at ?_))))))
  dsimp only
  rw [SF.slot.bind (.ref e)]
  refine wpAny_holding (wpAny_bind (wpAny_pure (wpAny_bind (wpAny_call ?_))))
  dsimp only
  refine codeAny_call_builtin SF.slot.plain SF.entry (@check_slot (model prog w) _ _ _ "object.__setattr__" "object" "__setattr__" (.ref e) [.str name tk, v] [] _ PySem.F.store_object.kind PySem.F.store_object.split obj (PySem.F.store_object.args (.ref e) (.str name tk) v) ?_)
  show wpAny _ _ (Builtin.«object.__setattr__» ⟨[.ref e, .str name tk, v], []⟩) _ _ _
  rw [osa_eq, refuse_eq]
  refine wpAny_bind (wpAny_bind (type.at (wpAny_bind (mro.at ?_))))
  rw [refuseLoop_ref, refuseLoop_ref, SF.passes (.ref e)]
  refine wpAny_pure (wpAny_bind (type.at (wpAny_bind (not.at (wpAny_bind (wpAny_pure ?_))))))
  dsimp only
  have new : e ≠ h.objs.size := Nat.ne_of_lt (Heap.lt_size he)
  have he₁ : (h.push (dictOf [] 0)).get? e = some (madeObj C t none) := Heap.get?_push_of_some _ he
  unfold storeInOwnDict
  refine wpAny_bind (wpAny_of_eq (a := ()) rfl ?_)
  refine bm_if_false rfl ?_
  show wpAny _ _ (instanceDict e true >>= _) _ _ _
  refine wpAny_bind ?_
  unfold instanceDict
  refine wpAny_bind (wpAny_loadPart he ?_)
  dsimp only
  refine wpAny_bind (data.at ?_)
  rw [hd]
  refine bm_if_false rfl ?_
  refine bm_if_false rfl ?_
  refine wpAny_bind (wpAny_alloc (wpAny_bind (wpAny_update he₁ ?_)))
  have dictAt : ((h.push (dictOf [] 0)).update e fun o => { cls := o.cls, dict := some h.objs.size, data := o.data, slots := o.slots }).get? h.objs.size = some (dictOf [] 0) :=
    (Heap.get?_update_ne _ _ _ _ new.symm).trans (Heap.get?_push_at rfl rfl)
  have empty : ((h.push (dictOf [] 0)).update e fun o => { cls := o.cls, dict := some h.objs.size, data := o.data, slots := o.slots }).Ns h.objs.size (fun _ => none) :=
    ⟨_, #[], _, dictAt, rfl, fun _ q => absurd q (by simp), fun _ => rfl⟩
  have self : ((h.push (dictOf [] 0)).update e fun o => { cls := o.cls, dict := some h.objs.size, data := o.data, slots := o.slots }).get? e = some (madeObj C t (some h.objs.size)) :=
    Heap.get?_update_self _ he₁ rfl
  refine wpAny_of_eq (a := some h.objs.size) rfl ?_
  show wpAny _ _ (storeInDict h.objs.size (.str name tk) name v) _ _ _
  unfold storeInDict newKeyGuard
  refine wpAny_bind (wpAny_pure (wpAny_bind (wpAny_nsSet1 (Heap.Ns1.of_empty empty) fun h' one same => ?_)))
  obtain ⟨oD, es, n, hD, hes, few⟩ := one.count (Within.cons name v Within.nil)
  refine wpAny_bind (wpAny_lookBehind hD (by rw [hes]; exact pastItsLine_dict (Nat.le_trans few (by rw [List.length_cons, List.length_nil, sizeLine_eq]; omega))) ?_)
  refine wpAny_pure (wpAny_pure (wpAny_pure ?_))
  refine hq h' _ h.objs.size ((same.2 e new).trans self) fun b o hb ho => ?_
  exact (same.2 b (Nat.ne_of_lt (Heap.lt_size ho))).trans ((Heap.get?_update_ne _ _ _ _ hb).trans (Heap.get?_push_of_some _ ho))
end
end Mine
end
section
open PySem PySem.W PyProof.Rows PySem.Calls PySem.Spec
namespace Mine
section
variable {prog : Program} {w : World} {A : Around} {E : Value → Shared → Prop} {s : Shared} {K : Frag} {h₀ base : Heap} {L C U e t : Addr} {m : Str → Option Value} {news : List (Addr × Obj)} {v : Value}
variable {nm q : Str} {N : Addr} {bs : List Value} {sn : List Str} {sub : List Value} {col : Option Bool} {dd : Option Addr} {k0 k1 k2 k3 k5 : Option Value}
/-- the class called, by the ledger -/
theorem ex_makeK {f : Addr} {Q : Value → Shared → Prop} (F : Fr h₀ L s.heap m) (X : K.In h₀) (Ns : News h₀ L s.heap news)
    (hC : K.lookup C = some (excClassObj nm q C N bs (upOf U) true sn sub false col dd k0 k1 k2 k3 k5 "Exception.__new__"))
    (hi : findIn K (.ref C) "__init__" = some (some (.ref f))) (hf : typeIn K (.ref f) = some (.type "function"))
    (k : ∀ e t h', Fr h₀ L h' m → News h₀ L h' ((e, madeObj C t none) :: (t, argTup [v]) :: news) → (∀ p ∈ news, p.1 < t) → t < e →
      codeAny (model prog w) (A.under (.builtin "type.__call__" ⟨[.ref C, v], []⟩)) (.call (.ref f) ⟨[.ref e, v], []⟩) (InitBack e fun r s' => match r with | .ok (.ret v) => Q v s' | .ok _ => False | .error e => E e s') { s with heap := h' }) :
    wpAny (model prog w) A (call (.ref C) [v]) Q E s := by
  obtain ⟨h, g, d, tk, os⟩ := s
  have X' := X.keeps F.keep
  have two := (Ns.push F (argTup [v])).push (F.push _) (madeObj C h.objs.size none)
  rw [Heap.size_push] at two
  exact wpAny_call (ex_make (X' _ _ hC) (looks_findIn X' hi) (fun self => bind_fn X' self hf)
    (k (h.objs.size + 1) h.objs.size _ ((F.push _).push _) two (fun p hp => Heap.lt_size (Ns p hp).1) (Nat.lt_succ_self _)))
/-- its attribute stored, by the ledger -/
theorem ex_storeK {cd : ClassData} {name : Str} {Q : Unit → Shared → Prop} (F : Fr h₀ L s.heap m) (X : K.In h₀) (Ns : News h₀ L s.heap ((e, madeObj C t none) :: news))
    (hc : clsIn K C = some cd) (hm : cd.mro = .ref C :: upOf U) (hd : cd.hasDict = true)
    (hs : findIn K (.ref C) "__setattr__" = some (some (.builtin "object.__setattr__"))) (hn : findIn K (.ref C) name = some none) (off : ∀ p ∈ news, p.1 ≠ e)
    (k : ∀ h' tk dx, Fr h₀ L h' m → News h₀ L h' ((e, madeObj C t (some dx)) :: news) → Q () { s with heap := h', toks := tk }) :
    wpAny (model prog w) A (setAttr (.ref e) name v) Q E s := by
  have at_ := Ns _ (.head _)
  refine ex_store (X.keeps F.keep) hc hm hd hs hn at_.1 fun h' tk dx one rest => k h' tk dx ?_ ?_
  · exact ⟨F.ns.at' fun o x => rest L o (Ne.symm at_.2.1) x, fun b o x => rest b o (fun z => by rw [z, at_.2.2] at x; cases x) (F.keep b o x), F.above⟩
  · intro p hp
    rcases List.mem_cons.mp hp with rfl | hp
    · exact ⟨one, at_.2⟩
    · exact ⟨rest _ _ (off p hp) (Ns p (.tail _ hp)).1, (Ns p (.tail _ hp)).2⟩
/-- it is raised -/
theorem ex_Raise {x : Expr} {env : Env} {pos : Pos} {Q : Flow → Shared → Prop} (hh : A.handled = none)
    (hC : K.lookup C = some (excClassObj nm q C N bs (upOf U) true sn sub false col dd k0 k1 k2 k3 k5 "Exception.__new__"))
    (k : wpAny (model prog w) A (eval x env) (fun v s₁ => ∃ e t dx, v = .ref e ∧ K.In s₁.heap ∧ s₁.heap.get? e = some (madeObj C t dx) ∧ E (.ref e) s₁) E s) :
    wpAny (model prog w) A (exec (.Raise (some x) none pos) env) Q E s := by
  have isB : (Value.ref C :: upOf U).contains (.type "BaseException") = true := rfl
  rw [arm_exec_Raise]
  refine wpAny_bind (wpAny_standAt ?_)
  show wpAny _ _ (raiseStmt env (some (do let v ← eval x env; standAt pos; pure v)) none) _ _ _
  unfold raiseStmt
  refine wpAny_bind (wpAny_bind (wpAny_mono k (fun v s₁ h₁ => wpAny_bind (wpAny_standAt (wpAny_pure ?_))) fun _ _ z => z))
  obtain ⟨e, t, dx, rfl, X, he, hE⟩ := h₁
  have hC' := X _ _ hC
  obtain ⟨h, g, d, tk, os⟩ := s₁
  dsimp only at he hC'
  repeat (first | with_reducible refine wpAny_loadPart_at he ?_ | with_reducible refine wpAny_loadPart_at hC' ?_ | (with_reducible refine wpAny_isSubtype_exc hC' ?_; rw [isB]) | wp_step)
  exact wpAny_raiseNew_none hh hE
/-- it leaves the frame that raised it -/
theorem ex_leave {M : Model} {g : Heap} {outer : List Env} {a : Addr} {name : Str} {scope : Scope} {cd : Value} {dx : Option Addr} {rest : List (Addr × Obj)} {Q : Unit → Shared → Prop}
    (B : Below A base outer g) (F : Fr g L s.heap m) (Ns : News g L s.heap ((e, madeObj C t dx) :: rest)) (sub : ∀ p ∈ news, p ∈ rest) (off : ∀ p ∈ news, p.1 ≠ e)
    (k : ∀ h', RaisedN base outer e (.ref C) news h' → g.UpToSlots h' → Q () { s with heap := h' }) (hk : scope.kind = .function := by rfl) :
    wpAny M (A.deeper (envOf name scope L a cd)) (leaving (envOf name scope L a cd) (.ref e)) Q E s := by
  have B' := B.push (name := name) (a := a) (cd := cd) F hk
  have at_ := Ns _ (.head _)
  have frame : ∀ ev ∈ envOf name scope L a cd :: outer, ∀ b, ev.frame = some b → b ∈ e :: (envOf name scope L a cd :: outer).filterMap (·.frame) :=
    fun ev he b hb => .tail _ (List.mem_filterMap.mpr ⟨ev, he, hb⟩)
  have low : ∀ {b}, g.get? b = none → base.get? b = none := fun hb => fresh_of_stays B.stays hb
  have keeps : ∀ b o, s.heap.get? b = some o → base.get? b = some o ∨ (g.get? b = none ∧ b ≠ L) → b ≠ e →
      (hideAll s.heap (e :: (envOf name scope L a cd :: outer).filterMap (·.frame))).get? b = some o := fun b o ho hb hne => by
    refine hideAll_get _ ho fun hm => ?_
    rcases List.mem_cons.mp hm with z | hm
    · exact hne z
    · rcases hb with hb | ⟨hb, hL⟩
      · rw [(B'.frames.mem hm).1] at hb; cases hb
      · obtain ⟨ev, hev, hf⟩ := List.mem_filterMap.mp hm
        rcases List.mem_cons.mp hev with rfl | hev
        · exact hL (Option.some.inj hf).symm
        · obtain ⟨o', ho', _⟩ := (B.frames.mem (List.mem_filterMap.mpr ⟨ev, hev, hf⟩)).2
          rw [hb] at ho'; cases ho'
  have old : ∀ b o, base.get? b = some o → b ≠ e := fun b o ho z => by rw [z, low at_.2.2] at ho; cases ho
  refine wpAny_leaving_firstW (a0 := .ref t) B'.stack (funFrames_hide B'.frames frame) rfl at_.1 (fun b o hb => of_hideAll _ hb) (hideAll_none _ (.head _)) rfl rfl rfl fun h' left => ?_
  obtain ⟨k1, ⟨_, _, k2⟩, k3, k4⟩ := left
  refine k h' ⟨_, .ref t, fun b o ho => keeps b o (F.keep _ _ (B.stays b o ho)) (.inl ho) (old b o ho), fun p hp => ?_, k1, hideAll_none _ (.head _), k2, k3⟩ ((Heap.UpToSlots.of_keeps F.keep).trans k4)
  have ap := Ns p (.tail _ (sub p hp))
  exact ⟨keeps _ _ ap.1 (.inr ⟨ap.2.2, ap.2.1⟩) (off p hp), low ap.2.2⟩
end
section
variable {prog : Program} {w : World} {A₀ : Around} {E : Value → Shared → Prop} {s : Shared} {K : Frag} {h₀ h : Heap} {outer : List Env} {L a C U e : Addr} {m : Str → Option Value} {name : Str} {scope : Scope} {cd : Value}
  {b₀ : Stmt} {suite : List Stmt} {pos np : Pos} {rest : List ExceptHandler} {Q : Flow → Shared → Prop} {news : List (Addr × Obj)} {p : Program} {loose : List Str} {mg mb : Str → Option Value} {x : Str}
variable {nm q : Str} {N : Addr} {bs : List Value} {sn : List Str} {sub : List Value} {col : Option Bool} {dd : Option Addr} {k0 k1 k2 k3 k5 : Option Value}
/-- an `except` of its own class takes it -/
theorem ex_caught (hA : A₀.frames = some outer) (F : Fr h₀ L h m) (up : h.UpToSlots s.heap) (R : RaisedN h₀ (envOf name scope L a cd :: outer) e (.ref C) news s.heap)
    (X : K.In h₀) (T : TopRead p loose mg mb h₀) (ex : nsIn K mainGlobals x = some (some (.ref C)))
    (hC : K.lookup C = some (excClassObj nm q C N bs (upOf U) true sn sub false col dd k0 k1 k2 k3 k5 "Exception.__new__"))
    (k : ∀ h', Fr h₀ L h' m → News h₀ L h' news → h.UpToSlots h' →
      wpAny (model prog w) ((A₀.deeper (envOf name scope L a cd)).mark (some (.ref e))) (execs (b₀ :: suite) (envOf name scope L a cd)) Q E { s with heap := h' })
    (hk : scope.kind = .function := by rfl) (hx : (envOf name scope L a cd).kindOf x = some .globalImplicit := by rfl) (hd : (x == ("__debug__" : Str)) = false := by decide)
    (hE : PassesOwnAt (model prog w) ((A₀.deeper (envOf name scope L a cd)).mark (some (.ref e))) (A₀.deeper (envOf name scope L a cd)) (envOf name scope L a cd) E := by passes_own) :
    wpAny (model prog w) (A₀.deeper (envOf name scope L a cd)) (noteFrame (.ref e) (envOf name scope L a cd))
      (fun _ s₂ => wpAny (model prog w) (A₀.deeper (envOf name scope L a cd)) (setFlight (.ref e) none) (fun _ s₃ =>
        wpAny (model prog w) (A₀.deeper (envOf name scope L a cd)) (handleBy (.ref e) (envOf name scope L a cd) (.ExceptHandler (some (.Name x np)) none (b₀ :: suite) pos :: rest)) Q E s₃) E s₂) E s := by
  obtain ⟨D, a0, stay, mine, fly⟩ := R
  refine wpAny_looks_onW (Around.frames_deeper hA) rfl fly fun g₁ held u₁ => wpAny_landsW held fun g₂ fly₂ u₂ => ?_
  have F₂ := F.of_stays (flyingW_base stay fly₂).1 (up.trans (u₁.trans u₂))
  obtain ⟨oe, he, hcls⟩ := fly₂.there
  have hC' := X.keeps F₂.keep _ _ hC
  refine wpAny_handleBy_cons (codeAny_handlers_test (name_K F₂ X T ex ?_ hk hx hd)) (by intro z; cases z)
  refine wpAny_excMatches_sub_self hC' he hcls rfl (codeAny_handlers_suite (lands_againW fly₂ fun g₃ fly₃ u₃ => wpAny_passesOwnAt hE (k g₃ (F₂.of_stays (flyingW_base stay fly₃).1 u₃) (fun y hy => ?_) (up.trans ((u₁.trans u₂).trans u₃)))))
  refine ⟨fly₃.1 _ _ (mine y hy).1, fun z => ?_, (mine y hy).2⟩
  obtain ⟨_, _, ⟨_, ⟨L', _, hL', none, _⟩, _⟩, _⟩ := fly
  obtain rfl : L = L' := Option.some.inj hL'
  have := (mine y hy).1
  rw [z, none] at this
  cases this
end
section
variable {prog : Program} {w : World} {A A₀ : Around} {s : Shared} {R : Result → Shared → Prop} {K : Frag}
/-- a def whose body may catch is entered from the lowest frame -/
theorem code_defT {p : Program} {loose : List Str} {mean : ExcName → Option Value} {mg mb : Str → Option Value} {h₀ : Heap} {L : Addr} {m : Str → Option Value} {env : Env} {news : List (Addr × Obj)}
    {name qual : Str} {params : Arguments} {body : List Stmt} {scope : Scope} {dV kV doc pm cdv ct oc : Value} {an od : Option Addr} {osl : Array (Option Value)} {f : Addr} {args : Args} {binds : List (Str × Value)}
    (B : Below A₀ h₀ [] h₀) (F : Fr h₀ L s.heap m) (X₀ : K.In h₀) (N : News h₀ L s.heap news) (T : Top p loose mean mg mb h₀) (hA : A.frames = some [env]) (hf : env.frame = some L) (hke : env.scope.kind = .function)
    (ho : K.lookup f = some ⟨oc, od, .func (fnOf name qual params body scope dV kV doc pm an cdv ct), osl⟩) (hcd : codeIn K cdv qual = true) (hroom : A.depth < recursionLimit)
    (hbind : BindsTo s (fnOf name qual params body scope dV kV doc pm an cdv ct) args binds) (hloc : ∀ y ∈ binds, scope.names.lookup y.1 = some .local)
    (h : ∀ g L' h₁, Fr h₀ L g m → Fr g L' h₁ (fun y => binds.reverse.lookup y) → News g L' h₁ news → Below A h₀ [env] g → K.In g → Top p loose mean mg mb g → (∀ p ∈ news, p.1 < L') → (@LT.lt Nat _ L L') →
      wpAny (model prog w) (A.deeper (envOf qual scope L' f cdv)) (execs body (envOf qual scope L' f cdv))
        (fun fl s' => h₀.StaysIn s'.heap ∧ g.UpToSlots s'.heap ∧ (∀ q ∈ news, s'.heap.get? q.1 = some q.2) ∧ (Fr h₀ L s'.heap m → News h₀ L s'.heap news → R (.ok (.ret (match fl with | .ret v => v | _ => .none))) s'))
        (fun e s' => wpAny (model prog w) (A.deeper (envOf qual scope L' f cdv)) (leaving (envOf qual scope L' f cdv) e) (fun _ s'' => R (.error e) s'') (fun e' s'' => R (.error e') s'') s')
        { s with heap := h₁, toks := s.toks + binds.length })
    (hco : scope.isCoroutine = false) (hgen : scope.isGenerator = false) (hk : scope.kind = .function)
    (hcell : ∀ x ∈ scope.names, x.2 ≠ .cell) : codeAny (model prog w) A (.call (.ref f) args) R s := by
  obtain ⟨FG, BG, st, -⟩ := groundX (R := R) B F N hA hf hke
  have X := X₀.keeps F.keep
  refine codeAny_call_def (fd := fnOf name qual params body scope dV kV doc pm an cdv ct) hroom (X _ _ ho) rfl (T.nolimit.keeps F.keep) (codeRec_of X hcd) rfl hbind hcell hloc (fun h₁ ns keep => ?_) hco hgen hk
  have here : News (hideAll s.heap (news.map (·.1))) s.heap.objs.size h₁ news := fun q hq =>
    ⟨keep _ _ (N q hq).1, Nat.ne_of_lt (Heap.lt_size (N q hq).1), hideAll_none _ (List.mem_map_of_mem hq)⟩
  have mine : Fr (hideAll s.heap (news.map (·.1))) s.heap.objs.size h₁ (fun y => binds.reverse.lookup y) :=
    ⟨ns, fun b o e => keep b o (of_hideAll _ e), Nat.le_of_eq (hideAll_size _ _)⟩
  refine wpAny_mono (h _ _ h₁ FG mine here BG (X₀.keeps st) (T.keeps st) (fun q hq => Heap.lt_size (N q hq).1) F.ns.lt) (fun fl s' z => ?_) fun _ _ z => z
  obtain ⟨z1, z2, z3, z4⟩ := z
  exact z4 ⟨z2.ns FG.ns, z1, F.above⟩ fun q hq => ⟨z3 q hq, (N q hq).2⟩
end
end Mine
end
section
namespace Mine
section
local macro_rules | `(tactic| walk_at "eval Call Name") => `(tactic| (k_here; (fail_if_success (with_reducible show wpAny _ _ (eval (Expr.Call (Expr.Name "range" _) _ _ _) _) _ _ _)); refine Call_ ?_))
local macro_rules | `(tactic| k_all) => `(tactic| first | assumption | (refine ne_next (by assumption) ?_; omega))

abbrev RTrue (news : List (Addr × Obj)) (h₀ : Heap) (L : Addr) (m : Str → Option Value) (s : Shared) (Q _E : Value → Shared → Prop) : Prop := ∀ (h' : Heap) (tk' : Nat), Fr h₀ L h' m → News h₀ L h' news → Q (.bool true) { s with heap := h', toks := tk' }
def Own44 (w : World) (E : Value → Shared → Prop) (v : Value) (s₁ : Shared) : Prop := ∃ e t dx, v = .ref e ∧ (KF w.params).In s₁.heap ∧ s₁.heap.get? e = some (madeObj 44 t dx) ∧ E (.ref e) s₁
theorem raise44 {w : World} {A : Around} {E : Value → Shared → Prop} {s : Shared} {x : Expr} {env : Env} {pos : Pos} {Q : Flow → Shared → Prop} (hh : A.handled = none)
    (k : wpAny (model PP w) A (eval x env) (Own44 w E) E s) :
    wpAny (model PP w) A (exec (.Raise (some x) none pos) env) Q E s := ex_Raise (K := KF w.params) (C := 44) (U := 31) hh rfl k
theorem make44 {w : World} {A : Around} {E : Value → Shared → Prop} {s : Shared} {h₀ : Heap} {L : Addr} {m : Str → Option Value} {news : List (Addr × Obj)} {v : Value} {Q : Value → Shared → Prop} (F : Fr h₀ L s.heap m) (X : (KF w.params).In h₀) (Ns : News h₀ L s.heap news)
    (k : ∀ e t h', Fr h₀ L h' m → News h₀ L h' ((e, madeObj 44 t none) :: (t, argTup [v]) :: news) → (∀ p ∈ news, p.1 < t) → (@LT.lt Nat _ t e) →
      codeAny (model PP w) (A.under (.builtin "type.__call__" ⟨[.ref 44, v], []⟩)) (.call (.ref 28) ⟨[.ref e, v], []⟩) (InitBack e fun r s' => match r with | .ok (.ret v) => Q v s' | .ok _ => False | .error e => E e s') { s with heap := h' }) :
    wpAny (model PP w) A (call (.ref 44) [v]) Q E s := ex_makeK (K := KF w.params) (U := 31) F X Ns rfl rfl rfl k
theorem store44 {w : World} {A : Around} {E : Value → Shared → Prop} {s : Shared} {h₀ : Heap} {L e t : Addr} {m : Str → Option Value} {news : List (Addr × Obj)} {v : Value} {Q : Unit → Shared → Prop} (F : Fr h₀ L s.heap m) (X : (KF w.params).In h₀) (Ns : News h₀ L s.heap ((e, madeObj 44 t none) :: news))
    (off : ∀ p ∈ news, p.1 ≠ e) (k : ∀ h' tk dx, Fr h₀ L h' m → News h₀ L h' ((e, madeObj 44 t (some dx)) :: news) → Q () { s with heap := h', toks := tk }) :
    wpAny (model PP w) A (setAttr (.ref e) "message" v) Q E s := ex_storeK (K := KF w.params) (U := 31) F X Ns rfl rfl rfl rfl rfl off k
theorem ex_ground {h₀ g hg h9 : Heap} {l : List Env} {e L : Addr} {cls : Value} {news : List (Addr × Obj)} {m : Str → Option Value} (R : RaisedN h₀ l e cls news h9) (F : Fr g L hg m) (U : hg.UpToSlots h9) (ab : h₀.objs.size ≤ L) : Fr h₀ L h9 m := by
  obtain ⟨D, a0, stay, -, fly⟩ := R
  exact ⟨U.ns F.ns, fun b o z => fly.1 b o (stay b o z), ab⟩
theorem caught44 {w : World} {A₀ : Around} {E : Value → Shared → Prop} {s : Shared} {h₀ h : Heap} {outer : List Env} {L a e : Addr} {m : Str → Option Value} {name : Str} {scope : Scope} {cd : Value}
    {b₀ : Stmt} {suite : List Stmt} {pos np : Pos} {rest : List ExceptHandler} {Q : Flow → Shared → Prop} {news : List (Addr × Obj)} {p : Program} {loose : List Str} {mean : ExcName → Option Value} {mg mb : Str → Option Value}
    (hA : A₀.frames = some outer) (F : Fr h₀ L h m) (up : h.UpToSlots s.heap) (R : RaisedN h₀ (envOf name scope L a cd :: outer) e (.ref 44) news s.heap)
    (X : (KF w.params).In h₀) (T : Top p loose mean mg mb h₀) (hk : scope.kind = .function)
    (k : ∀ h', Fr h₀ L h' m → News h₀ L h' news → h.UpToSlots h' →
      wpAny (model PP w) ((A₀.deeper (envOf name scope L a cd)).mark (some (.ref e))) (execs (b₀ :: suite) (envOf name scope L a cd)) Q E { s with heap := h' })
    (hx : (envOf name scope L a cd).kindOf ("SheetFault" : Str) = some .globalImplicit := by rfl)
    (hE : PassesOwnAt (model PP w) ((A₀.deeper (envOf name scope L a cd)).mark (some (.ref e))) (A₀.deeper (envOf name scope L a cd)) (envOf name scope L a cd) E := by passes_own) :
    wpAny (model PP w) (A₀.deeper (envOf name scope L a cd)) (noteFrame (.ref e) (envOf name scope L a cd))
      (fun _ s₂ => wpAny (model PP w) (A₀.deeper (envOf name scope L a cd)) (setFlight (.ref e) none) (fun _ s₃ =>
        wpAny (model PP w) (A₀.deeper (envOf name scope L a cd)) (handleBy (.ref e) (envOf name scope L a cd) (.ExceptHandler (some (.Name "SheetFault" np)) none (b₀ :: suite) pos :: rest)) Q E s₃) E s₂) E s :=
  ex_caught (K := KF w.params) (C := 44) (U := 31) hA F up R X (topRead_of T) rfl rfl k hk hx (by decide) hE
local macro_rules | `(tactic| walk_at "call ref") => `(tactic| (k_here; (first | ((with_reducible show wpAny _ _ (PySem.call (Value.ref 64) _) _ _ _); refine wpAny_call ?_) | ((with_reducible show wpAny _ _ (PySem.call (Value.ref 44) [Value.str _ _]) _ _ _); k_dflt (refine' make44 ?kF ?kX ?kN ?_; (case kF => k_asm); (case kX => k_asm); (case kN => k_asm)); intro e9 t9 h9 F9 N9 l9 l8; (try dsimp only); (try k_fold))); k_dflt (refine' code_def ?k1 ?k2 ?k3 ?k4 ?k5 ?kA ?kF ?kK ?k6 ?k7 ?k8 ?k9 ?kB ?_ ?c2 ?c3 ?c4 ?c5; (case kA => exact rfl); (case kF => exact rfl); (case kK => first | exact rfl | assumption); (case k1 => k_asm); (case k2 => k_asm); (case k3 => k_asm); (case k4 => k_asm); (case k5 => k_asm); (case k6 => k_is); (case k7 => k_is); (case k8 => ktr_room); (case k9 => exact BindsTo.of_eq rfl); (case c5 => decide); (case kB => exact locs rfl); (case c2 => exact rfl); (case c3 => exact rfl); (case c4 => exact rfl); k_whole; intro g' L' h' FG' F' N' B' X' T'; (try dsimp only); (try k_lift B'); (try k_fold))))
local macro_rules | `(tactic| walk_at "setAttr ref") => `(tactic| (k_here; (with_reducible show wpAny _ _ (PySem.setAttr (Value.ref _) _ _) _ _ _); k_dflt (refine' store44 ?kF ?kX ?kN ?ko ?_; (case kF => k_asm); (case kX => k_asm); (case kN => k_asm); (case ko => k_all)); intro h9 tk9 dx9 F9 N9; (try dsimp only); (try k_fold)))
local macro_rules | `(tactic| walk_at "exec Raise some none") => `(tactic| (k_here; refine raise44 rfl ?_))

abbrev ToldR (w : World) (f : Addr) (nd nu : Nat) (vs : List Value) (news : List (Addr × Obj)) (Ret : Heap → Addr → (Str → Option Value) → Shared → (Value → Shared → Prop) → (Value → Shared → Prop) → Prop) : Prop :=
  ∀ (mean : ExcName → Option Value) (mg mb : Str → Option Value) (dp un : Nat) (gd : Option (List Code)) (cn : Str) (cs : Scope) (a : Addr) (ccd : Value) (cl : List (Str × Addr)) (A₀ : Around) (h₀ : Heap) (L : Addr) (m : Str → Option Value) (s : Shared) (Q E : Value → Shared → Prop),
    Below A₀ h₀ [] h₀ → Fr h₀ L s.heap m → (KF w.params).In h₀ → News h₀ L s.heap news → Top VW LO mean mg mb h₀ → cs.kind = .function → dp + nd < recursionLimit → un + nu < cLine →
      Ret h₀ L m s Q E → wpAny (model PP w) (ktrTop dp un gd cn cs L a ccd cl []) (call (.ref f) vs) Q E s
set_option maxHeartbeats 8000000 in
theorem refused5_call (w : World) (t1 : Tok) (news : List (Addr × Obj)) : ToldR w 149 3 32 [.int 5 t1] news (RTrue news) := by
  w_top off
  dsimp only [ToldR, KF, VW, LO, PP]
  k_fill
  intro mean mg mb dp un gd cn cs a ccd cl A₀ h₀ L m s Q E hB hF hX hN hT hk hd hu hret
  refine wpAny_call ?_
  k_dflt (refine' code_defT ?k1 ?k2 ?k3 ?k4 ?k5 ?kA ?kF ?kK ?k6 ?k7 ?k8 ?k9 ?kB ?_ ?c2 ?c3 ?c4 ?c5; (case kA => exact rfl); (case kF => exact rfl); (case kK => first | exact rfl | assumption); (case k1 => k_asm); (case k2 => k_asm); (case k3 => k_asm); (case k4 => k_asm); (case k5 => k_asm); (case k6 => k_is); (case k7 => k_is); (case k8 => ktr_room); (case k9 => exact BindsTo.of_eq rfl); (case c5 => decide); (case kB => exact locs rfl); (case c2 => exact rfl); (case c3 => exact rfl); (case c4 => exact rfl); k_whole; intro g' L' h' FG' F' N' B' X' T' lN lL; (try dsimp only); (try k_lift B'); (try k_fold))
  k_steps
  rename Fr _ _ _ _ => kF
  rename News _ _ _ _ => kN
  rename Frag.In _ _ => kX
  refine ⟨_, _, some _, rfl, Frag.In.keeps kX kF.keep, (kN _ (.head _)).1, ?_⟩
  refine ex_leave (by assumption) kF kN (news := news) (fun p hp => .tail _ hp) (by k_all) (fun h9 R9 U9 => ?_)
  clear kF kN kX
  rename Fr g' L' _ _ => kG
  (try dsimp only)
  refine caught44 rfl (ex_ground R9 kG U9 (Nat.le_of_lt (Nat.lt_of_le_of_lt hF.above lL))) (Heap.UpToSlots.of_keeps fun _ _ z => z) R9 hX hT rfl (fun h8 F8 N8 U8 => ?_)
  k_steps
  · exact F8.keep
  · exact ((Heap.UpToSlots.of_keeps kG.keep).trans U9).trans U8
  · first | exact fun q hq => (N8 q hq).1 | exact (N8 _ (by assumption)).1
  · exact hret _ _ (by assumption) (by assumption)
set_option maxHeartbeats 8000000 in
theorem refused1_call (w : World) (t1 : Tok) (news : List (Addr × Obj)) : ToldR w 149 3 32 [.int (-1) t1] news (RTrue news) := by
  w_top off
  dsimp only [ToldR, KF, VW, LO, PP]
  k_fill
  intro mean mg mb dp un gd cn cs a ccd cl A₀ h₀ L m s Q E hB hF hX hN hT hk hd hu hret
  refine wpAny_call ?_
  k_dflt (refine' code_defT ?k1 ?k2 ?k3 ?k4 ?k5 ?kA ?kF ?kK ?k6 ?k7 ?k8 ?k9 ?kB ?_ ?c2 ?c3 ?c4 ?c5; (case kA => exact rfl); (case kF => exact rfl); (case kK => first | exact rfl | assumption); (case k1 => k_asm); (case k2 => k_asm); (case k3 => k_asm); (case k4 => k_asm); (case k5 => k_asm); (case k6 => k_is); (case k7 => k_is); (case k8 => ktr_room); (case k9 => exact BindsTo.of_eq rfl); (case c5 => decide); (case kB => exact locs rfl); (case c2 => exact rfl); (case c3 => exact rfl); (case c4 => exact rfl); k_whole; intro g' L' h' FG' F' N' B' X' T' lN lL; (try dsimp only); (try k_lift B'); (try k_fold))
  k_steps
  rename Fr _ _ _ _ => kF
  rename News _ _ _ _ => kN
  rename Frag.In _ _ => kX
  refine ⟨_, _, some _, rfl, Frag.In.keeps kX kF.keep, (kN _ (.head _)).1, ?_⟩
  refine ex_leave (by assumption) kF kN (news := news) (fun p hp => .tail _ hp) (by k_all) (fun h9 R9 U9 => ?_)
  clear kF kN kX
  rename Fr g' L' _ _ => kG
  (try dsimp only)
  refine caught44 rfl (ex_ground R9 kG U9 (Nat.le_of_lt (Nat.lt_of_le_of_lt hF.above lL))) (Heap.UpToSlots.of_keeps fun _ _ z => z) R9 hX hT rfl (fun h8 F8 N8 U8 => ?_)
  k_steps
  · exact F8.keep
  · exact ((Heap.UpToSlots.of_keeps kG.keep).trans U9).trans U8
  · first | exact fun q hq => (N8 q hq).1 | exact (N8 _ (by assumption)).1
  · exact hret _ _ (by assumption) (by assumption)
end
end Mine
end
section
local macro_rules | `(tactic| walk_at "no key of the walk") => `(tactic| fail "no line")
local macro_rules | `(tactic| walk_at "no key of the walk") => `(tactic| fail "no line")
local macro_rules | `(tactic| walk_at "no key of the walk") => `(tactic| fail "no line")
local macro_rules | `(tactic| walk_at "no key of the walk") => `(tactic| fail "no line")
local macro_rules | `(tactic| walk_at "no key of the walk") => `(tactic| fail "no line")
namespace Mine
section
local macro_rules | `(tactic| walk_at "call ref") => `(tactic| (k_here; first | with_reducible refine heldAt 130 ?_ | with_reducible refine heldAt 57 ?_ | with_reducible refine heldAt 116 ?_ | with_reducible refine heldAt 64 ?_ | with_reducible refine heldAt 123 ?_ | with_reducible refine heldAt 97 ?_ | with_reducible refine heldAt 149 ?_))
local macro_rules | `(tactic| k_ne) => `(tactic| (refine neN ?_; (try dsimp only); first | assumption | (refine Ne.symm ?_; assumption)))
local macro_rules | `(tactic| walk_at "eval ListComp") => `(tactic| (k_here; k_dflt (refine listComp_S (by k_asm) (by with_unfolding_all rfl) (by decide) (by rfl) (by decide) (by rfl) ?_)))
local macro_rules | `(tactic| walk_at "exec For Name Call cons nil") => `(tactic| (k_here; (with_unfolding_all refine' For_turns (by assumption) ?_); k_whole))
local macro_rules | `(tactic| walk_at "eval Call Name") => `(tactic| (k_here; (fail_if_success (with_reducible show wpAny _ _ (eval (Expr.Call (Expr.Name "range" _) _ _ _) _) _ _ _)); refine Call_ ?_))
local macro_rules | `(tactic| k_all) => `(tactic| first | assumption | (refine ne_next (by assumption) ?_; omega))

theorem enter_callN {M : Model} {A : Around} {s : Shared} {f : Value} {pos : List Value} {kw : List (Str × Value)} {c : ClaimW} {cl : Str → Option Addr} {mean : ExcName → Option Value} {args : List WData} {s₁ : Shared}
    (h : codeN M A (.call f ⟨pos, kw⟩) (GoodW c cl mean args s₁) s) : wpN M A (PySem.call f pos kw) (fun v s' => GoodWG c cl mean args s₁ (.ok (.ret v)) s') (fun e s' => GoodWG c cl mean args s₁ (.error e) s') s :=
  wpN_call (codeN_mono h fun res s' g => by
    have g2 := GoodW.toG g
    rcases g.1 with ⟨v, _, _, rfl, _⟩ | ⟨e, _, _, rfl, _⟩ <;> exact g2)
theorem three_of {ys : List Value} {ks : List Int} (h : IntsAre ys ks) (hl : ks.length = 3) : ∃ x y z tx ty tz, ks = [x, y, z] ∧ ys = [.int x tx, .int y ty, .int z tz] := by
  cases h with
  | nil => cases hl
  | cons x tx h =>
    cases h with
    | nil => cases hl
    | cons y ty h =>
      cases h with
      | nil => cases hl
      | cons z tz h =>
        cases h with
        | nil => exact ⟨x, y, z, tx, ty, tz, rfl, rfl⟩
        | cons _ _ _ => simp at hl
set_option maxHeartbeats 16000000 in
theorem law_holds : PySem.Challenge.rw_pf0182_01.Holds := hd (by
  k_fill
  intro w s₀ s₁ mg mb G Y fa o pm cd doc dV kV ho hd' hcd hD hmg hg args vals as hpre hlay hrd hwl hlo
  have KX := kIn_of Y
  have X := (Ground.X G).1
  have V := (Ground.X G).2
  refine Ground.open G ?_
  intro T B D TE TW
  try (refine guard_noD D (by decide +kernel) ?_; clear D)
  obtain ⟨_, _, M⟩ := bmod_of_top T
  have TA := at_of_top T
  try (obtain ⟨_, _, he, B0⟩ := based_of_top T rfl hmg ho hd'; have he' : cd = _ := he; subst he'; clear he)
  clear hmg
  wrow_args hpre hlay hrd hwl hlo
  refine wpAny_guarded (enter_callN ?_) (wpAny_pure ⟨.inl ⟨_, .bool true, [], rfl, raisesW_false (by wrow_none_raised), .bool _, (by wrow_post), fun _ => ⟨List.nodup_nil, fun _ h => nomatch h⟩⟩, .of_keep fun _ _ e => e, rfl, .of_eq hg⟩)
  w_top on
  have K0 := below_caller (Top.heap T)
  have he := Dflts.none hD rfl; subst he; have he := Dflts.noKw hD; subst he
  refine enterN ho (fd_plain hd') hcd (Top.nolimit T) (by decide) (BindsTo.of_eq rfl) rfl (by decide) rfl rfl rfl fun h₁ tk₁ cells F N0 X0 => ?_
  cells_open X0
  clear hd' TA
  k_drop
  (try k_fold)
  refine wpN_execs_A ?_
  (k_steps; repeat (any_goals ((refine unheld ?_; first | ((with_reducible show wpAny _ _ (PySem.call (Value.ref 149) [Value.int _ _]) _ _ _); k_dflt (refine' refused1_call _ _ _ _ _ _ _ _ _ _ _ _ _ _ _ _ _ _ _ _ _ ?zkBz ?zkFz ?zkXz ?zkNz ?zkTz ?zkkz ?zkdz ?zkuz ?_; (case zkBz => k_asm); (case zkFz => k_asm); (case zkXz => k_asm); (case zkNz => k_asm); (case zkTz => k_asm); (case zkkz => first | exact rfl | assumption); (case zkdz => ktr_room); (case zkuz => ktr_units)); intro zh9z ztk9z zF9z zN9z; (try dsimp only); (try k_fold); (try k_sweep)) | ((with_reducible show wpAny _ _ (PySem.call (Value.ref 149) [Value.int _ _]) _ _ _); k_dflt (refine' refused5_call _ _ _ _ _ _ _ _ _ _ _ _ _ _ _ _ _ _ _ _ _ ?zkBz ?zkFz ?zkXz ?zkNz ?zkTz ?zkkz ?zkdz ?zkuz ?_; (case zkBz => k_asm); (case zkFz => k_asm); (case zkXz => k_asm); (case zkNz => k_asm); (case zkTz => k_asm); (case zkkz => first | exact rfl | assumption); (case zkdz => ktr_room); (case zkuz => ktr_units)); intro zh9z ztk9z zF9z zN9z; (try dsimp only); (try k_fold); (try k_sweep)) | ((with_reducible show wpAny _ _ (PySem.call (Value.ref 97) [Value.ref _, Value.int _ _]) _ _ _); k_dflt (refine' pool_call _ _ _ _ _ _ ?zhnz ?zhiz _ _ _ _ _ _ _ _ _ _ _ _ _ _ _ _ _ _ _ _ ?zkBz ?zkFz ?zkXz ?zkNz ?zkTz ?zkkz ?zkdz ?zkuz ?_; (case zkBz => k_asm); (case zkFz => k_asm); (case zkXz => k_asm); (case zkNz => k_asm); (case zkTz => k_asm); (case zkkz => first | exact rfl | assumption); (case zkdz => ktr_room); (case zkuz => ktr_units); (case zhiz => assumption); (case zhnz => omega)); (refine And.intro (by assumption) ?_; intro zD9z za9z zb9z zta9z ztb9z zh9z ztk9z zha9z zhb9z hb9' F9 N9 l9; (have zl8z := PySem.W.allLt_of l9); (simp only [PySem.W.AllLt] at zl8z)); (try dsimp only); (try k_fold); (try k_sweep)) | ((with_reducible show wpAny _ _ (PySem.call (Value.ref 123) [Value.int _ _, Value.int _ _, Value.int _ _, Value.int _ _]) _ _ _); k_dflt (refine' lguess_call _ _ _ _ _ _ _ _ _ _ ?zh0z ?zh1z _ _ _ _ _ _ _ _ _ _ _ _ _ _ _ _ _ _ _ _ ?zkBz ?zkFz ?zkXz ?zkNz ?zkTz ?zkkz ?zkdz ?zkuz ?_; (case zkBz => k_asm); (case zkFz => k_asm); (case zkXz => k_asm); (case zkNz => k_asm); (case zkTz => k_asm); (case zkkz => first | exact rfl | assumption); (case zkdz => ktr_room); (case zkuz => ktr_units); (case zh0z => first | assumption | omega); (case zh1z => first | assumption | omega)); intro zt9z zh9z ztk9z zF9z zN9z; (try dsimp only); (try k_fold); (try k_sweep)) | ((with_reducible show wpAny _ _ (PySem.call (Value.ref 64) [Value.int _ _, Value.int _ _, Value.int _ _, Value.int _ _]) _ _ _); k_dflt (refine' guess_call _ _ _ _ _ _ _ _ _ _ ?zh0z ?zh1z _ _ _ _ _ _ _ _ _ _ _ _ _ _ _ _ _ _ _ _ ?zkBz ?zkFz ?zkXz ?zkNz ?zkTz ?zkkz ?zkdz ?zkuz ?_; (case zkBz => k_asm); (case zkFz => k_asm); (case zkXz => k_asm); (case zkNz => k_asm); (case zkTz => k_asm); (case zkkz => first | exact rfl | assumption); (case zkdz => ktr_room); (case zkuz => ktr_units); (case zh0z => first | assumption | omega); (case zh1z => first | assumption | omega)); intro zt9z zh9z ztk9z zF9z zN9z; (try dsimp only); (try k_fold); (try k_sweep)) | ((with_reducible show wpAny _ _ (PySem.call (Value.ref 116) [Value.int _ _, Value.int _ _, Value.int _ _]) _ _ _); k_dflt (refine' lnear_call _ _ _ _ _ _ _ _ _ _ _ _ _ _ _ _ _ _ _ _ _ _ _ _ _ _ _ _ ?zkBz ?zkFz ?zkXz ?zkNz ?zkTz ?zkkz ?zkdz ?zkuz ?_; (case zkBz => k_asm); (case zkFz => k_asm); (case zkXz => k_asm); (case zkNz => k_asm); (case zkTz => k_asm); (case zkkz => first | exact rfl | assumption); (case zkdz => ktr_room); (case zkuz => ktr_units)); intro zt9z zh9z ztk9z zF9z zN9z; (try dsimp only); (try k_fold); (try k_sweep)) | ((with_reducible show wpAny _ _ (PySem.call (Value.ref 57) [Value.int _ _, Value.int _ _, Value.int _ _]) _ _ _); k_dflt (refine' nearest_call _ _ _ _ _ _ _ _ _ _ _ _ _ _ _ _ _ _ _ _ _ _ _ _ _ _ _ _ ?zkBz ?zkFz ?zkXz ?zkNz ?zkTz ?zkkz ?zkdz ?zkuz ?_; (case zkBz => k_asm); (case zkFz => k_asm); (case zkXz => k_asm); (case zkNz => k_asm); (case zkTz => k_asm); (case zkkz => first | exact rfl | assumption); (case zkdz => ktr_room); (case zkuz => ktr_units)); intro zt9z zh9z ztk9z zF9z zN9z; (try dsimp only); (try k_fold); (try k_sweep)) | ((with_reducible show wpAny _ _ (PySem.call (Value.ref 130) [Value.ref _]) _ _ _); k_dflt (refine' octet_call _ _ _ _ _ _ _ _ _ ?zUz ?zh0z ?zhb0z ?zhbz _ _ _ _ _ _ _ _ _ _ _ _ _ _ _ _ _ _ _ _ ?zkBz ?zkFz ?zkXz ?zkNz ?zkTz ?zkkz ?zkdz ?zkuz ?_; (case zkBz => k_asm); (case zkFz => k_asm); (case zkXz => k_asm); (case zkNz => k_asm); (case zkTz => k_asm); (case zkkz => first | exact rfl | assumption); (case zkdz => ktr_room); (case zkuz => ktr_units); (case zUz => k_updF); (case zh0z => assumption); (case zhb0z => assumption); (case zhbz => assumption)); intro zr9z zt9z zh9z ztk9z za9z zb9z zta9z ztb9z zhr0z zhr1z zha0z zhb0z zhb1z zF9z zN9z; (try dsimp only at zN9z); (try dsimp only); (try k_fold); (try k_sweep))); (try k_steps))))
  (try dsimp only)
  refine wpN_execs_A ?_
  (k_steps; repeat (any_goals ((refine unheld ?_; first | ((with_reducible show wpAny _ _ (PySem.call (Value.ref 149) [Value.int _ _]) _ _ _); k_dflt (refine' refused1_call _ _ _ _ _ _ _ _ _ _ _ _ _ _ _ _ _ _ _ _ _ ?zkBz ?zkFz ?zkXz ?zkNz ?zkTz ?zkkz ?zkdz ?zkuz ?_; (case zkBz => k_asm); (case zkFz => k_asm); (case zkXz => k_asm); (case zkNz => k_asm); (case zkTz => k_asm); (case zkkz => first | exact rfl | assumption); (case zkdz => ktr_room); (case zkuz => ktr_units)); intro zh9z ztk9z zF9z zN9z; (try dsimp only); (try k_fold); (try k_sweep)) | ((with_reducible show wpAny _ _ (PySem.call (Value.ref 149) [Value.int _ _]) _ _ _); k_dflt (refine' refused5_call _ _ _ _ _ _ _ _ _ _ _ _ _ _ _ _ _ _ _ _ _ ?zkBz ?zkFz ?zkXz ?zkNz ?zkTz ?zkkz ?zkdz ?zkuz ?_; (case zkBz => k_asm); (case zkFz => k_asm); (case zkXz => k_asm); (case zkNz => k_asm); (case zkTz => k_asm); (case zkkz => first | exact rfl | assumption); (case zkdz => ktr_room); (case zkuz => ktr_units)); intro zh9z ztk9z zF9z zN9z; (try dsimp only); (try k_fold); (try k_sweep)) | ((with_reducible show wpAny _ _ (PySem.call (Value.ref 97) [Value.ref _, Value.int _ _]) _ _ _); k_dflt (refine' pool_call _ _ _ _ _ _ ?zhnz ?zhiz _ _ _ _ _ _ _ _ _ _ _ _ _ _ _ _ _ _ _ _ ?zkBz ?zkFz ?zkXz ?zkNz ?zkTz ?zkkz ?zkdz ?zkuz ?_; (case zkBz => k_asm); (case zkFz => k_asm); (case zkXz => k_asm); (case zkNz => k_asm); (case zkTz => k_asm); (case zkkz => first | exact rfl | assumption); (case zkdz => ktr_room); (case zkuz => ktr_units); (case zhiz => assumption); (case zhnz => omega)); (refine And.intro (by assumption) ?_; intro zD9z za9z zb9z zta9z ztb9z zh9z ztk9z zha9z zhb9z hb9' F9 N9 l9; (have zl8z := PySem.W.allLt_of l9); (simp only [PySem.W.AllLt] at zl8z)); (try dsimp only); (try k_fold); (try k_sweep)) | ((with_reducible show wpAny _ _ (PySem.call (Value.ref 123) [Value.int _ _, Value.int _ _, Value.int _ _, Value.int _ _]) _ _ _); k_dflt (refine' lguess_call _ _ _ _ _ _ _ _ _ _ ?zh0z ?zh1z _ _ _ _ _ _ _ _ _ _ _ _ _ _ _ _ _ _ _ _ ?zkBz ?zkFz ?zkXz ?zkNz ?zkTz ?zkkz ?zkdz ?zkuz ?_; (case zkBz => k_asm); (case zkFz => k_asm); (case zkXz => k_asm); (case zkNz => k_asm); (case zkTz => k_asm); (case zkkz => first | exact rfl | assumption); (case zkdz => ktr_room); (case zkuz => ktr_units); (case zh0z => first | assumption | omega); (case zh1z => first | assumption | omega)); intro zt9z zh9z ztk9z zF9z zN9z; (try dsimp only); (try k_fold); (try k_sweep)) | ((with_reducible show wpAny _ _ (PySem.call (Value.ref 64) [Value.int _ _, Value.int _ _, Value.int _ _, Value.int _ _]) _ _ _); k_dflt (refine' guess_call _ _ _ _ _ _ _ _ _ _ ?zh0z ?zh1z _ _ _ _ _ _ _ _ _ _ _ _ _ _ _ _ _ _ _ _ ?zkBz ?zkFz ?zkXz ?zkNz ?zkTz ?zkkz ?zkdz ?zkuz ?_; (case zkBz => k_asm); (case zkFz => k_asm); (case zkXz => k_asm); (case zkNz => k_asm); (case zkTz => k_asm); (case zkkz => first | exact rfl | assumption); (case zkdz => ktr_room); (case zkuz => ktr_units); (case zh0z => first | assumption | omega); (case zh1z => first | assumption | omega)); intro zt9z zh9z ztk9z zF9z zN9z; (try dsimp only); (try k_fold); (try k_sweep)) | ((with_reducible show wpAny _ _ (PySem.call (Value.ref 116) [Value.int _ _, Value.int _ _, Value.int _ _]) _ _ _); k_dflt (refine' lnear_call _ _ _ _ _ _ _ _ _ _ _ _ _ _ _ _ _ _ _ _ _ _ _ _ _ _ _ _ ?zkBz ?zkFz ?zkXz ?zkNz ?zkTz ?zkkz ?zkdz ?zkuz ?_; (case zkBz => k_asm); (case zkFz => k_asm); (case zkXz => k_asm); (case zkNz => k_asm); (case zkTz => k_asm); (case zkkz => first | exact rfl | assumption); (case zkdz => ktr_room); (case zkuz => ktr_units)); intro zt9z zh9z ztk9z zF9z zN9z; (try dsimp only); (try k_fold); (try k_sweep)) | ((with_reducible show wpAny _ _ (PySem.call (Value.ref 57) [Value.int _ _, Value.int _ _, Value.int _ _]) _ _ _); k_dflt (refine' nearest_call _ _ _ _ _ _ _ _ _ _ _ _ _ _ _ _ _ _ _ _ _ _ _ _ _ _ _ _ ?zkBz ?zkFz ?zkXz ?zkNz ?zkTz ?zkkz ?zkdz ?zkuz ?_; (case zkBz => k_asm); (case zkFz => k_asm); (case zkXz => k_asm); (case zkNz => k_asm); (case zkTz => k_asm); (case zkkz => first | exact rfl | assumption); (case zkdz => ktr_room); (case zkuz => ktr_units)); intro zt9z zh9z ztk9z zF9z zN9z; (try dsimp only); (try k_fold); (try k_sweep)) | ((with_reducible show wpAny _ _ (PySem.call (Value.ref 130) [Value.ref _]) _ _ _); k_dflt (refine' octet_call _ _ _ _ _ _ _ _ _ ?zUz ?zh0z ?zhb0z ?zhbz _ _ _ _ _ _ _ _ _ _ _ _ _ _ _ _ _ _ _ _ ?zkBz ?zkFz ?zkXz ?zkNz ?zkTz ?zkkz ?zkdz ?zkuz ?_; (case zkBz => k_asm); (case zkFz => k_asm); (case zkXz => k_asm); (case zkNz => k_asm); (case zkTz => k_asm); (case zkkz => first | exact rfl | assumption); (case zkdz => ktr_room); (case zkuz => ktr_units); (case zUz => k_updF); (case zh0z => assumption); (case zhb0z => assumption); (case zhbz => assumption)); intro zr9z zt9z zh9z ztk9z za9z zb9z zta9z ztb9z zhr0z zhr1z zha0z zhb0z zhb1z zF9z zN9z; (try dsimp only at zN9z); (try dsimp only); (try k_fold); (try k_sweep))); (try k_steps))))
  (try dsimp only)
  refine wpN_execs_A ?_
  (k_steps; repeat (any_goals ((refine unheld ?_; first | ((with_reducible show wpAny _ _ (PySem.call (Value.ref 149) [Value.int _ _]) _ _ _); k_dflt (refine' refused1_call _ _ _ _ _ _ _ _ _ _ _ _ _ _ _ _ _ _ _ _ _ ?zkBz ?zkFz ?zkXz ?zkNz ?zkTz ?zkkz ?zkdz ?zkuz ?_; (case zkBz => k_asm); (case zkFz => k_asm); (case zkXz => k_asm); (case zkNz => k_asm); (case zkTz => k_asm); (case zkkz => first | exact rfl | assumption); (case zkdz => ktr_room); (case zkuz => ktr_units)); intro zh9z ztk9z zF9z zN9z; (try dsimp only); (try k_fold); (try k_sweep)) | ((with_reducible show wpAny _ _ (PySem.call (Value.ref 149) [Value.int _ _]) _ _ _); k_dflt (refine' refused5_call _ _ _ _ _ _ _ _ _ _ _ _ _ _ _ _ _ _ _ _ _ ?zkBz ?zkFz ?zkXz ?zkNz ?zkTz ?zkkz ?zkdz ?zkuz ?_; (case zkBz => k_asm); (case zkFz => k_asm); (case zkXz => k_asm); (case zkNz => k_asm); (case zkTz => k_asm); (case zkkz => first | exact rfl | assumption); (case zkdz => ktr_room); (case zkuz => ktr_units)); intro zh9z ztk9z zF9z zN9z; (try dsimp only); (try k_fold); (try k_sweep)) | ((with_reducible show wpAny _ _ (PySem.call (Value.ref 97) [Value.ref _, Value.int _ _]) _ _ _); k_dflt (refine' pool_call _ _ _ _ _ _ ?zhnz ?zhiz _ _ _ _ _ _ _ _ _ _ _ _ _ _ _ _ _ _ _ _ ?zkBz ?zkFz ?zkXz ?zkNz ?zkTz ?zkkz ?zkdz ?zkuz ?_; (case zkBz => k_asm); (case zkFz => k_asm); (case zkXz => k_asm); (case zkNz => k_asm); (case zkTz => k_asm); (case zkkz => first | exact rfl | assumption); (case zkdz => ktr_room); (case zkuz => ktr_units); (case zhiz => assumption); (case zhnz => omega)); (refine And.intro (by assumption) ?_; intro zD9z za9z zb9z zta9z ztb9z zh9z ztk9z zha9z zhb9z hb9' F9 N9 l9; (have zl8z := PySem.W.allLt_of l9); (simp only [PySem.W.AllLt] at zl8z)); (try dsimp only); (try k_fold); (try k_sweep)) | ((with_reducible show wpAny _ _ (PySem.call (Value.ref 123) [Value.int _ _, Value.int _ _, Value.int _ _, Value.int _ _]) _ _ _); k_dflt (refine' lguess_call _ _ _ _ _ _ _ _ _ _ ?zh0z ?zh1z _ _ _ _ _ _ _ _ _ _ _ _ _ _ _ _ _ _ _ _ ?zkBz ?zkFz ?zkXz ?zkNz ?zkTz ?zkkz ?zkdz ?zkuz ?_; (case zkBz => k_asm); (case zkFz => k_asm); (case zkXz => k_asm); (case zkNz => k_asm); (case zkTz => k_asm); (case zkkz => first | exact rfl | assumption); (case zkdz => ktr_room); (case zkuz => ktr_units); (case zh0z => first | assumption | omega); (case zh1z => first | assumption | omega)); intro zt9z zh9z ztk9z zF9z zN9z; (try dsimp only); (try k_fold); (try k_sweep)) | ((with_reducible show wpAny _ _ (PySem.call (Value.ref 64) [Value.int _ _, Value.int _ _, Value.int _ _, Value.int _ _]) _ _ _); k_dflt (refine' guess_call _ _ _ _ _ _ _ _ _ _ ?zh0z ?zh1z _ _ _ _ _ _ _ _ _ _ _ _ _ _ _ _ _ _ _ _ ?zkBz ?zkFz ?zkXz ?zkNz ?zkTz ?zkkz ?zkdz ?zkuz ?_; (case zkBz => k_asm); (case zkFz => k_asm); (case zkXz => k_asm); (case zkNz => k_asm); (case zkTz => k_asm); (case zkkz => first | exact rfl | assumption); (case zkdz => ktr_room); (case zkuz => ktr_units); (case zh0z => first | assumption | omega); (case zh1z => first | assumption | omega)); intro zt9z zh9z ztk9z zF9z zN9z; (try dsimp only); (try k_fold); (try k_sweep)) | ((with_reducible show wpAny _ _ (PySem.call (Value.ref 116) [Value.int _ _, Value.int _ _, Value.int _ _]) _ _ _); k_dflt (refine' lnear_call _ _ _ _ _ _ _ _ _ _ _ _ _ _ _ _ _ _ _ _ _ _ _ _ _ _ _ _ ?zkBz ?zkFz ?zkXz ?zkNz ?zkTz ?zkkz ?zkdz ?zkuz ?_; (case zkBz => k_asm); (case zkFz => k_asm); (case zkXz => k_asm); (case zkNz => k_asm); (case zkTz => k_asm); (case zkkz => first | exact rfl | assumption); (case zkdz => ktr_room); (case zkuz => ktr_units)); intro zt9z zh9z ztk9z zF9z zN9z; (try dsimp only); (try k_fold); (try k_sweep)) | ((with_reducible show wpAny _ _ (PySem.call (Value.ref 57) [Value.int _ _, Value.int _ _, Value.int _ _]) _ _ _); k_dflt (refine' nearest_call _ _ _ _ _ _ _ _ _ _ _ _ _ _ _ _ _ _ _ _ _ _ _ _ _ _ _ _ ?zkBz ?zkFz ?zkXz ?zkNz ?zkTz ?zkkz ?zkdz ?zkuz ?_; (case zkBz => k_asm); (case zkFz => k_asm); (case zkXz => k_asm); (case zkNz => k_asm); (case zkTz => k_asm); (case zkkz => first | exact rfl | assumption); (case zkdz => ktr_room); (case zkuz => ktr_units)); intro zt9z zh9z ztk9z zF9z zN9z; (try dsimp only); (try k_fold); (try k_sweep)) | ((with_reducible show wpAny _ _ (PySem.call (Value.ref 130) [Value.ref _]) _ _ _); k_dflt (refine' octet_call _ _ _ _ _ _ _ _ _ ?zUz ?zh0z ?zhb0z ?zhbz _ _ _ _ _ _ _ _ _ _ _ _ _ _ _ _ _ _ _ _ ?zkBz ?zkFz ?zkXz ?zkNz ?zkTz ?zkkz ?zkdz ?zkuz ?_; (case zkBz => k_asm); (case zkFz => k_asm); (case zkXz => k_asm); (case zkNz => k_asm); (case zkTz => k_asm); (case zkkz => first | exact rfl | assumption); (case zkdz => ktr_room); (case zkuz => ktr_units); (case zUz => k_updF); (case zh0z => assumption); (case zhb0z => assumption); (case zhbz => assumption)); intro zr9z zt9z zh9z ztk9z za9z zb9z zta9z ztb9z zhr0z zhr1z zha0z zhb0z zhb1z zF9z zN9z; (try dsimp only at zN9z); (try dsimp only); (try k_fold); (try k_sweep))); (try k_steps))))
  rename News _ _ _ _ => kN9
  rename Fr _ _ _ _ => kF9
  refine law_names kN9 (by assumption) (by assumption) (by assumption) (by assumption) (by assumption) (by assumption) (by assumption) (by omega) fun src a b ta tb o1 o2 o3 o4 e1 e2 e3 e4 ha hb0 hb1 hlt N8 => ?_
  clear kN9
  refine wpN_execs_A ?_
  (k_steps; repeat (any_goals ((refine unheld ?_; first | ((with_reducible show wpAny _ _ (PySem.call (Value.ref 149) [Value.int _ _]) _ _ _); k_dflt (refine' refused1_call _ _ _ _ _ _ _ _ _ _ _ _ _ _ _ _ _ _ _ _ _ ?zkBz ?zkFz ?zkXz ?zkNz ?zkTz ?zkkz ?zkdz ?zkuz ?_; (case zkBz => k_asm); (case zkFz => k_asm); (case zkXz => k_asm); (case zkNz => k_asm); (case zkTz => k_asm); (case zkkz => first | exact rfl | assumption); (case zkdz => ktr_room); (case zkuz => ktr_units)); intro zh9z ztk9z zF9z zN9z; (try dsimp only); (try k_fold); (try k_sweep)) | ((with_reducible show wpAny _ _ (PySem.call (Value.ref 149) [Value.int _ _]) _ _ _); k_dflt (refine' refused5_call _ _ _ _ _ _ _ _ _ _ _ _ _ _ _ _ _ _ _ _ _ ?zkBz ?zkFz ?zkXz ?zkNz ?zkTz ?zkkz ?zkdz ?zkuz ?_; (case zkBz => k_asm); (case zkFz => k_asm); (case zkXz => k_asm); (case zkNz => k_asm); (case zkTz => k_asm); (case zkkz => first | exact rfl | assumption); (case zkdz => ktr_room); (case zkuz => ktr_units)); intro zh9z ztk9z zF9z zN9z; (try dsimp only); (try k_fold); (try k_sweep)) | ((with_reducible show wpAny _ _ (PySem.call (Value.ref 97) [Value.ref _, Value.int _ _]) _ _ _); k_dflt (refine' pool_call _ _ _ _ _ _ ?zhnz ?zhiz _ _ _ _ _ _ _ _ _ _ _ _ _ _ _ _ _ _ _ _ ?zkBz ?zkFz ?zkXz ?zkNz ?zkTz ?zkkz ?zkdz ?zkuz ?_; (case zkBz => k_asm); (case zkFz => k_asm); (case zkXz => k_asm); (case zkNz => k_asm); (case zkTz => k_asm); (case zkkz => first | exact rfl | assumption); (case zkdz => ktr_room); (case zkuz => ktr_units); (case zhiz => assumption); (case zhnz => omega)); (refine And.intro (by assumption) ?_; intro zD9z za9z zb9z zta9z ztb9z zh9z ztk9z zha9z zhb9z hb9' F9 N9 l9; (have zl8z := PySem.W.allLt_of l9); (simp only [PySem.W.AllLt] at zl8z)); (try dsimp only); (try k_fold); (try k_sweep)) | ((with_reducible show wpAny _ _ (PySem.call (Value.ref 123) [Value.int _ _, Value.int _ _, Value.int _ _, Value.int _ _]) _ _ _); k_dflt (refine' lguess_call _ _ _ _ _ _ _ _ _ _ ?zh0z ?zh1z _ _ _ _ _ _ _ _ _ _ _ _ _ _ _ _ _ _ _ _ ?zkBz ?zkFz ?zkXz ?zkNz ?zkTz ?zkkz ?zkdz ?zkuz ?_; (case zkBz => k_asm); (case zkFz => k_asm); (case zkXz => k_asm); (case zkNz => k_asm); (case zkTz => k_asm); (case zkkz => first | exact rfl | assumption); (case zkdz => ktr_room); (case zkuz => ktr_units); (case zh0z => first | assumption | omega); (case zh1z => first | assumption | omega)); intro zt9z zh9z ztk9z zF9z zN9z; (try dsimp only); (try k_fold); (try k_sweep)) | ((with_reducible show wpAny _ _ (PySem.call (Value.ref 64) [Value.int _ _, Value.int _ _, Value.int _ _, Value.int _ _]) _ _ _); k_dflt (refine' guess_call _ _ _ _ _ _ _ _ _ _ ?zh0z ?zh1z _ _ _ _ _ _ _ _ _ _ _ _ _ _ _ _ _ _ _ _ ?zkBz ?zkFz ?zkXz ?zkNz ?zkTz ?zkkz ?zkdz ?zkuz ?_; (case zkBz => k_asm); (case zkFz => k_asm); (case zkXz => k_asm); (case zkNz => k_asm); (case zkTz => k_asm); (case zkkz => first | exact rfl | assumption); (case zkdz => ktr_room); (case zkuz => ktr_units); (case zh0z => first | assumption | omega); (case zh1z => first | assumption | omega)); intro zt9z zh9z ztk9z zF9z zN9z; (try dsimp only); (try k_fold); (try k_sweep)) | ((with_reducible show wpAny _ _ (PySem.call (Value.ref 116) [Value.int _ _, Value.int _ _, Value.int _ _]) _ _ _); k_dflt (refine' lnear_call _ _ _ _ _ _ _ _ _ _ _ _ _ _ _ _ _ _ _ _ _ _ _ _ _ _ _ _ ?zkBz ?zkFz ?zkXz ?zkNz ?zkTz ?zkkz ?zkdz ?zkuz ?_; (case zkBz => k_asm); (case zkFz => k_asm); (case zkXz => k_asm); (case zkNz => k_asm); (case zkTz => k_asm); (case zkkz => first | exact rfl | assumption); (case zkdz => ktr_room); (case zkuz => ktr_units)); intro zt9z zh9z ztk9z zF9z zN9z; (try dsimp only); (try k_fold); (try k_sweep)) | ((with_reducible show wpAny _ _ (PySem.call (Value.ref 57) [Value.int _ _, Value.int _ _, Value.int _ _]) _ _ _); k_dflt (refine' nearest_call _ _ _ _ _ _ _ _ _ _ _ _ _ _ _ _ _ _ _ _ _ _ _ _ _ _ _ _ ?zkBz ?zkFz ?zkXz ?zkNz ?zkTz ?zkkz ?zkdz ?zkuz ?_; (case zkBz => k_asm); (case zkFz => k_asm); (case zkXz => k_asm); (case zkNz => k_asm); (case zkTz => k_asm); (case zkkz => first | exact rfl | assumption); (case zkdz => ktr_room); (case zkuz => ktr_units)); intro zt9z zh9z ztk9z zF9z zN9z; (try dsimp only); (try k_fold); (try k_sweep)) | ((with_reducible show wpAny _ _ (PySem.call (Value.ref 130) [Value.ref _]) _ _ _); k_dflt (refine' octet_call _ _ _ _ _ _ _ _ _ ?zUz ?zh0z ?zhb0z ?zhbz _ _ _ _ _ _ _ _ _ _ _ _ _ _ _ _ _ _ _ _ ?zkBz ?zkFz ?zkXz ?zkNz ?zkTz ?zkkz ?zkdz ?zkuz ?_; (case zkBz => k_asm); (case zkFz => k_asm); (case zkXz => k_asm); (case zkNz => k_asm); (case zkTz => k_asm); (case zkkz => first | exact rfl | assumption); (case zkdz => ktr_room); (case zkuz => ktr_units); (case zUz => k_updF); (case zh0z => assumption); (case zhb0z => assumption); (case zhbz => assumption)); intro zr9z zt9z zh9z ztk9z za9z zb9z zta9z ztb9z zhr0z zhr1z zha0z zhb0z zhb1z zF9z zN9z; (try dsimp only at zN9z); (try dsimp only); (try k_fold); (try k_sweep))); (try k_steps))))
  refine lawLoop (n := 6) rfl (by assumption) rfl (by decide) (by k_asm) (by k_asm) e1 e2 e3 ha hb0 hb1 (fun i t m₁ a b ta tb o1 o2 o3 v1 v2 v3 h₁ tk₁ I oI hi e1 e2 e3 ha hb0 hb1 hoff hne F₁ N₁ => ?_) (fun h₂ tk₂ m₂ a b ta tb o1 o2 o3 v1 v2 v3 e1 e2 e3 ha hb0 hb1 hoff F₂ N₂ => ?_)
  · obtain ⟨x1, rfl⟩ := off1 hoff
    clear hoff
    (try dsimp only [lawLed] at N₁)
    have h9 := hne.1; have h9 := hne.2.1; have h9 := hne.2.2.1; have h9 := hne.2.2.2.1; have h9 := hne.2.2.2.2; clear hne
    refine postA2 fun Q9 hQ9 => ?_
    (k_steps; repeat (any_goals ((refine unheld ?_; first | ((with_reducible show wpAny _ _ (PySem.call (Value.ref 149) [Value.int _ _]) _ _ _); k_dflt (refine' refused1_call _ _ _ _ _ _ _ _ _ _ _ _ _ _ _ _ _ _ _ _ _ ?zkBz ?zkFz ?zkXz ?zkNz ?zkTz ?zkkz ?zkdz ?zkuz ?_; (case zkBz => k_asm); (case zkFz => k_asm); (case zkXz => k_asm); (case zkNz => k_asm); (case zkTz => k_asm); (case zkkz => first | exact rfl | assumption); (case zkdz => ktr_room); (case zkuz => ktr_units)); intro zh9z ztk9z zF9z zN9z; (try dsimp only); (try k_fold); (try k_sweep)) | ((with_reducible show wpAny _ _ (PySem.call (Value.ref 149) [Value.int _ _]) _ _ _); k_dflt (refine' refused5_call _ _ _ _ _ _ _ _ _ _ _ _ _ _ _ _ _ _ _ _ _ ?zkBz ?zkFz ?zkXz ?zkNz ?zkTz ?zkkz ?zkdz ?zkuz ?_; (case zkBz => k_asm); (case zkFz => k_asm); (case zkXz => k_asm); (case zkNz => k_asm); (case zkTz => k_asm); (case zkkz => first | exact rfl | assumption); (case zkdz => ktr_room); (case zkuz => ktr_units)); intro zh9z ztk9z zF9z zN9z; (try dsimp only); (try k_fold); (try k_sweep)) | ((with_reducible show wpAny _ _ (PySem.call (Value.ref 97) [Value.ref _, Value.int _ _]) _ _ _); k_dflt (refine' pool_call _ _ _ _ _ _ ?zhnz ?zhiz _ _ _ _ _ _ _ _ _ _ _ _ _ _ _ _ _ _ _ _ ?zkBz ?zkFz ?zkXz ?zkNz ?zkTz ?zkkz ?zkdz ?zkuz ?_; (case zkBz => k_asm); (case zkFz => k_asm); (case zkXz => k_asm); (case zkNz => k_asm); (case zkTz => k_asm); (case zkkz => first | exact rfl | assumption); (case zkdz => ktr_room); (case zkuz => ktr_units); (case zhiz => assumption); (case zhnz => omega)); (refine And.intro (by assumption) ?_; intro zD9z za9z zb9z zta9z ztb9z zh9z ztk9z zha9z zhb9z hb9' F9 N9 l9; (have zl8z := PySem.W.allLt_of l9); (simp only [PySem.W.AllLt] at zl8z)); (try dsimp only); (try k_fold); (try k_sweep)) | ((with_reducible show wpAny _ _ (PySem.call (Value.ref 123) [Value.int _ _, Value.int _ _, Value.int _ _, Value.int _ _]) _ _ _); k_dflt (refine' lguess_call _ _ _ _ _ _ _ _ _ _ ?zh0z ?zh1z _ _ _ _ _ _ _ _ _ _ _ _ _ _ _ _ _ _ _ _ ?zkBz ?zkFz ?zkXz ?zkNz ?zkTz ?zkkz ?zkdz ?zkuz ?_; (case zkBz => k_asm); (case zkFz => k_asm); (case zkXz => k_asm); (case zkNz => k_asm); (case zkTz => k_asm); (case zkkz => first | exact rfl | assumption); (case zkdz => ktr_room); (case zkuz => ktr_units); (case zh0z => first | assumption | omega); (case zh1z => first | assumption | omega)); intro zt9z zh9z ztk9z zF9z zN9z; (try dsimp only); (try k_fold); (try k_sweep)) | ((with_reducible show wpAny _ _ (PySem.call (Value.ref 64) [Value.int _ _, Value.int _ _, Value.int _ _, Value.int _ _]) _ _ _); k_dflt (refine' guess_call _ _ _ _ _ _ _ _ _ _ ?zh0z ?zh1z _ _ _ _ _ _ _ _ _ _ _ _ _ _ _ _ _ _ _ _ ?zkBz ?zkFz ?zkXz ?zkNz ?zkTz ?zkkz ?zkdz ?zkuz ?_; (case zkBz => k_asm); (case zkFz => k_asm); (case zkXz => k_asm); (case zkNz => k_asm); (case zkTz => k_asm); (case zkkz => first | exact rfl | assumption); (case zkdz => ktr_room); (case zkuz => ktr_units); (case zh0z => first | assumption | omega); (case zh1z => first | assumption | omega)); intro zt9z zh9z ztk9z zF9z zN9z; (try dsimp only); (try k_fold); (try k_sweep)) | ((with_reducible show wpAny _ _ (PySem.call (Value.ref 116) [Value.int _ _, Value.int _ _, Value.int _ _]) _ _ _); k_dflt (refine' lnear_call _ _ _ _ _ _ _ _ _ _ _ _ _ _ _ _ _ _ _ _ _ _ _ _ _ _ _ _ ?zkBz ?zkFz ?zkXz ?zkNz ?zkTz ?zkkz ?zkdz ?zkuz ?_; (case zkBz => k_asm); (case zkFz => k_asm); (case zkXz => k_asm); (case zkNz => k_asm); (case zkTz => k_asm); (case zkkz => first | exact rfl | assumption); (case zkdz => ktr_room); (case zkuz => ktr_units)); intro zt9z zh9z ztk9z zF9z zN9z; (try dsimp only); (try k_fold); (try k_sweep)) | ((with_reducible show wpAny _ _ (PySem.call (Value.ref 57) [Value.int _ _, Value.int _ _, Value.int _ _]) _ _ _); k_dflt (refine' nearest_call _ _ _ _ _ _ _ _ _ _ _ _ _ _ _ _ _ _ _ _ _ _ _ _ _ _ _ _ ?zkBz ?zkFz ?zkXz ?zkNz ?zkTz ?zkkz ?zkdz ?zkuz ?_; (case zkBz => k_asm); (case zkFz => k_asm); (case zkXz => k_asm); (case zkNz => k_asm); (case zkTz => k_asm); (case zkkz => first | exact rfl | assumption); (case zkdz => ktr_room); (case zkuz => ktr_units)); intro zt9z zh9z ztk9z zF9z zN9z; (try dsimp only); (try k_fold); (try k_sweep)) | ((with_reducible show wpAny _ _ (PySem.call (Value.ref 130) [Value.ref _]) _ _ _); k_dflt (refine' octet_call _ _ _ _ _ _ _ _ _ ?zUz ?zh0z ?zhb0z ?zhbz _ _ _ _ _ _ _ _ _ _ _ _ _ _ _ _ _ _ _ _ ?zkBz ?zkFz ?zkXz ?zkNz ?zkTz ?zkkz ?zkdz ?zkuz ?_; (case zkBz => k_asm); (case zkFz => k_asm); (case zkXz => k_asm); (case zkNz => k_asm); (case zkTz => k_asm); (case zkkz => first | exact rfl | assumption); (case zkdz => ktr_room); (case zkuz => ktr_units); (case zUz => k_updF); (case zh0z => assumption); (case zhb0z => assumption); (case zhbz => assumption)); intro zr9z zt9z zh9z ztk9z za9z zb9z zta9z ztb9z zhr0z zhr1z zha0z zhb0z zhb1z zF9z zN9z; (try dsimp only at zN9z); (try dsimp only); (try k_fold); (try k_sweep))); (try k_steps))))
    refine octets_goal (src := src) rfl (by assumption) (by omega) (by omega) (by k_asm) (by k_asm) (by k_updF) (by assumption) (by assumption) (by assumption) (fun i t' a b ta tb ys I oI C oC D m₂ h tk E' ha0 hb0 hb1 hC hx F N off ne => ?_) (fun g ys ks a b ta tb hys hlen hks ha0 hb0 hb1 => ?_)
    · (try dsimp only at N off)
      have off2 := off
      simp only [LCg.Off3] at off2
      repeat (have h9 := off2.1.1; have h9 := off2.1.2.1; have h9 := off2.1.2.2; replace off2 := off2.2)
      have h9 := ne.1; have h9 := ne.2.1; have h9 := ne.2.2; clear ne
      refine postA fun Q8 E8 hQ8 hE8 => ?_
      (k_steps; repeat (any_goals ((refine unheld ?_; first | ((with_reducible show wpAny _ _ (PySem.call (Value.ref 149) [Value.int _ _]) _ _ _); k_dflt (refine' refused1_call _ _ _ _ _ _ _ _ _ _ _ _ _ _ _ _ _ _ _ _ _ ?zkBz ?zkFz ?zkXz ?zkNz ?zkTz ?zkkz ?zkdz ?zkuz ?_; (case zkBz => k_asm); (case zkFz => k_asm); (case zkXz => k_asm); (case zkNz => k_asm); (case zkTz => k_asm); (case zkkz => first | exact rfl | assumption); (case zkdz => ktr_room); (case zkuz => ktr_units)); intro zh9z ztk9z zF9z zN9z; (try dsimp only); (try k_fold); (try k_sweep)) | ((with_reducible show wpAny _ _ (PySem.call (Value.ref 149) [Value.int _ _]) _ _ _); k_dflt (refine' refused5_call _ _ _ _ _ _ _ _ _ _ _ _ _ _ _ _ _ _ _ _ _ ?zkBz ?zkFz ?zkXz ?zkNz ?zkTz ?zkkz ?zkdz ?zkuz ?_; (case zkBz => k_asm); (case zkFz => k_asm); (case zkXz => k_asm); (case zkNz => k_asm); (case zkTz => k_asm); (case zkkz => first | exact rfl | assumption); (case zkdz => ktr_room); (case zkuz => ktr_units)); intro zh9z ztk9z zF9z zN9z; (try dsimp only); (try k_fold); (try k_sweep)) | ((with_reducible show wpAny _ _ (PySem.call (Value.ref 97) [Value.ref _, Value.int _ _]) _ _ _); k_dflt (refine' pool_call _ _ _ _ _ _ ?zhnz ?zhiz _ _ _ _ _ _ _ _ _ _ _ _ _ _ _ _ _ _ _ _ ?zkBz ?zkFz ?zkXz ?zkNz ?zkTz ?zkkz ?zkdz ?zkuz ?_; (case zkBz => k_asm); (case zkFz => k_asm); (case zkXz => k_asm); (case zkNz => k_asm); (case zkTz => k_asm); (case zkkz => first | exact rfl | assumption); (case zkdz => ktr_room); (case zkuz => ktr_units); (case zhiz => assumption); (case zhnz => omega)); (refine And.intro (by assumption) ?_; intro zD9z za9z zb9z zta9z ztb9z zh9z ztk9z zha9z zhb9z hb9' F9 N9 l9; (have zl8z := PySem.W.allLt_of l9); (simp only [PySem.W.AllLt] at zl8z)); (try dsimp only); (try k_fold); (try k_sweep)) | ((with_reducible show wpAny _ _ (PySem.call (Value.ref 123) [Value.int _ _, Value.int _ _, Value.int _ _, Value.int _ _]) _ _ _); k_dflt (refine' lguess_call _ _ _ _ _ _ _ _ _ _ ?zh0z ?zh1z _ _ _ _ _ _ _ _ _ _ _ _ _ _ _ _ _ _ _ _ ?zkBz ?zkFz ?zkXz ?zkNz ?zkTz ?zkkz ?zkdz ?zkuz ?_; (case zkBz => k_asm); (case zkFz => k_asm); (case zkXz => k_asm); (case zkNz => k_asm); (case zkTz => k_asm); (case zkkz => first | exact rfl | assumption); (case zkdz => ktr_room); (case zkuz => ktr_units); (case zh0z => first | assumption | omega); (case zh1z => first | assumption | omega)); intro zt9z zh9z ztk9z zF9z zN9z; (try dsimp only); (try k_fold); (try k_sweep)) | ((with_reducible show wpAny _ _ (PySem.call (Value.ref 64) [Value.int _ _, Value.int _ _, Value.int _ _, Value.int _ _]) _ _ _); k_dflt (refine' guess_call _ _ _ _ _ _ _ _ _ _ ?zh0z ?zh1z _ _ _ _ _ _ _ _ _ _ _ _ _ _ _ _ _ _ _ _ ?zkBz ?zkFz ?zkXz ?zkNz ?zkTz ?zkkz ?zkdz ?zkuz ?_; (case zkBz => k_asm); (case zkFz => k_asm); (case zkXz => k_asm); (case zkNz => k_asm); (case zkTz => k_asm); (case zkkz => first | exact rfl | assumption); (case zkdz => ktr_room); (case zkuz => ktr_units); (case zh0z => first | assumption | omega); (case zh1z => first | assumption | omega)); intro zt9z zh9z ztk9z zF9z zN9z; (try dsimp only); (try k_fold); (try k_sweep)) | ((with_reducible show wpAny _ _ (PySem.call (Value.ref 116) [Value.int _ _, Value.int _ _, Value.int _ _]) _ _ _); k_dflt (refine' lnear_call _ _ _ _ _ _ _ _ _ _ _ _ _ _ _ _ _ _ _ _ _ _ _ _ _ _ _ _ ?zkBz ?zkFz ?zkXz ?zkNz ?zkTz ?zkkz ?zkdz ?zkuz ?_; (case zkBz => k_asm); (case zkFz => k_asm); (case zkXz => k_asm); (case zkNz => k_asm); (case zkTz => k_asm); (case zkkz => first | exact rfl | assumption); (case zkdz => ktr_room); (case zkuz => ktr_units)); intro zt9z zh9z ztk9z zF9z zN9z; (try dsimp only); (try k_fold); (try k_sweep)) | ((with_reducible show wpAny _ _ (PySem.call (Value.ref 57) [Value.int _ _, Value.int _ _, Value.int _ _]) _ _ _); k_dflt (refine' nearest_call _ _ _ _ _ _ _ _ _ _ _ _ _ _ _ _ _ _ _ _ _ _ _ _ _ _ _ _ ?zkBz ?zkFz ?zkXz ?zkNz ?zkTz ?zkkz ?zkdz ?zkuz ?_; (case zkBz => k_asm); (case zkFz => k_asm); (case zkXz => k_asm); (case zkNz => k_asm); (case zkTz => k_asm); (case zkkz => first | exact rfl | assumption); (case zkdz => ktr_room); (case zkuz => ktr_units)); intro zt9z zh9z ztk9z zF9z zN9z; (try dsimp only); (try k_fold); (try k_sweep)) | ((with_reducible show wpAny _ _ (PySem.call (Value.ref 130) [Value.ref _]) _ _ _); k_dflt (refine' octet_call _ _ _ _ _ _ _ _ _ ?zUz ?zh0z ?zhb0z ?zhbz _ _ _ _ _ _ _ _ _ _ _ _ _ _ _ _ _ _ _ _ ?zkBz ?zkFz ?zkXz ?zkNz ?zkTz ?zkkz ?zkdz ?zkuz ?_; (case zkBz => k_asm); (case zkFz => k_asm); (case zkXz => k_asm); (case zkNz => k_asm); (case zkTz => k_asm); (case zkkz => first | exact rfl | assumption); (case zkdz => ktr_room); (case zkuz => ktr_units); (case zUz => k_updF); (case zh0z => assumption); (case zhb0z => assumption); (case zhbz => assumption)); intro zr9z zt9z zh9z ztk9z za9z zb9z zta9z ztb9z zhr0z zhr1z zha0z zhb0z zhb1z zF9z zN9z; (try dsimp only at zN9z); (try dsimp only); (try k_fold); (try k_sweep))); (try k_steps))))
      refine hQ8 _ _ ?_
      (k_steps; repeat (any_goals ((refine unheld ?_; first | ((with_reducible show wpAny _ _ (PySem.call (Value.ref 149) [Value.int _ _]) _ _ _); k_dflt (refine' refused1_call _ _ _ _ _ _ _ _ _ _ _ _ _ _ _ _ _ _ _ _ _ ?zkBz ?zkFz ?zkXz ?zkNz ?zkTz ?zkkz ?zkdz ?zkuz ?_; (case zkBz => k_asm); (case zkFz => k_asm); (case zkXz => k_asm); (case zkNz => k_asm); (case zkTz => k_asm); (case zkkz => first | exact rfl | assumption); (case zkdz => ktr_room); (case zkuz => ktr_units)); intro zh9z ztk9z zF9z zN9z; (try dsimp only); (try k_fold); (try k_sweep)) | ((with_reducible show wpAny _ _ (PySem.call (Value.ref 149) [Value.int _ _]) _ _ _); k_dflt (refine' refused5_call _ _ _ _ _ _ _ _ _ _ _ _ _ _ _ _ _ _ _ _ _ ?zkBz ?zkFz ?zkXz ?zkNz ?zkTz ?zkkz ?zkdz ?zkuz ?_; (case zkBz => k_asm); (case zkFz => k_asm); (case zkXz => k_asm); (case zkNz => k_asm); (case zkTz => k_asm); (case zkkz => first | exact rfl | assumption); (case zkdz => ktr_room); (case zkuz => ktr_units)); intro zh9z ztk9z zF9z zN9z; (try dsimp only); (try k_fold); (try k_sweep)) | ((with_reducible show wpAny _ _ (PySem.call (Value.ref 97) [Value.ref _, Value.int _ _]) _ _ _); k_dflt (refine' pool_call _ _ _ _ _ _ ?zhnz ?zhiz _ _ _ _ _ _ _ _ _ _ _ _ _ _ _ _ _ _ _ _ ?zkBz ?zkFz ?zkXz ?zkNz ?zkTz ?zkkz ?zkdz ?zkuz ?_; (case zkBz => k_asm); (case zkFz => k_asm); (case zkXz => k_asm); (case zkNz => k_asm); (case zkTz => k_asm); (case zkkz => first | exact rfl | assumption); (case zkdz => ktr_room); (case zkuz => ktr_units); (case zhiz => assumption); (case zhnz => omega)); (refine And.intro (by assumption) ?_; intro zD9z za9z zb9z zta9z ztb9z zh9z ztk9z zha9z zhb9z hb9' F9 N9 l9; (have zl8z := PySem.W.allLt_of l9); (simp only [PySem.W.AllLt] at zl8z)); (try dsimp only); (try k_fold); (try k_sweep)) | ((with_reducible show wpAny _ _ (PySem.call (Value.ref 123) [Value.int _ _, Value.int _ _, Value.int _ _, Value.int _ _]) _ _ _); k_dflt (refine' lguess_call _ _ _ _ _ _ _ _ _ _ ?zh0z ?zh1z _ _ _ _ _ _ _ _ _ _ _ _ _ _ _ _ _ _ _ _ ?zkBz ?zkFz ?zkXz ?zkNz ?zkTz ?zkkz ?zkdz ?zkuz ?_; (case zkBz => k_asm); (case zkFz => k_asm); (case zkXz => k_asm); (case zkNz => k_asm); (case zkTz => k_asm); (case zkkz => first | exact rfl | assumption); (case zkdz => ktr_room); (case zkuz => ktr_units); (case zh0z => first | assumption | omega); (case zh1z => first | assumption | omega)); intro zt9z zh9z ztk9z zF9z zN9z; (try dsimp only); (try k_fold); (try k_sweep)) | ((with_reducible show wpAny _ _ (PySem.call (Value.ref 64) [Value.int _ _, Value.int _ _, Value.int _ _, Value.int _ _]) _ _ _); k_dflt (refine' guess_call _ _ _ _ _ _ _ _ _ _ ?zh0z ?zh1z _ _ _ _ _ _ _ _ _ _ _ _ _ _ _ _ _ _ _ _ ?zkBz ?zkFz ?zkXz ?zkNz ?zkTz ?zkkz ?zkdz ?zkuz ?_; (case zkBz => k_asm); (case zkFz => k_asm); (case zkXz => k_asm); (case zkNz => k_asm); (case zkTz => k_asm); (case zkkz => first | exact rfl | assumption); (case zkdz => ktr_room); (case zkuz => ktr_units); (case zh0z => first | assumption | omega); (case zh1z => first | assumption | omega)); intro zt9z zh9z ztk9z zF9z zN9z; (try dsimp only); (try k_fold); (try k_sweep)) | ((with_reducible show wpAny _ _ (PySem.call (Value.ref 116) [Value.int _ _, Value.int _ _, Value.int _ _]) _ _ _); k_dflt (refine' lnear_call _ _ _ _ _ _ _ _ _ _ _ _ _ _ _ _ _ _ _ _ _ _ _ _ _ _ _ _ ?zkBz ?zkFz ?zkXz ?zkNz ?zkTz ?zkkz ?zkdz ?zkuz ?_; (case zkBz => k_asm); (case zkFz => k_asm); (case zkXz => k_asm); (case zkNz => k_asm); (case zkTz => k_asm); (case zkkz => first | exact rfl | assumption); (case zkdz => ktr_room); (case zkuz => ktr_units)); intro zt9z zh9z ztk9z zF9z zN9z; (try dsimp only); (try k_fold); (try k_sweep)) | ((with_reducible show wpAny _ _ (PySem.call (Value.ref 57) [Value.int _ _, Value.int _ _, Value.int _ _]) _ _ _); k_dflt (refine' nearest_call _ _ _ _ _ _ _ _ _ _ _ _ _ _ _ _ _ _ _ _ _ _ _ _ _ _ _ _ ?zkBz ?zkFz ?zkXz ?zkNz ?zkTz ?zkkz ?zkdz ?zkuz ?_; (case zkBz => k_asm); (case zkFz => k_asm); (case zkXz => k_asm); (case zkNz => k_asm); (case zkTz => k_asm); (case zkkz => first | exact rfl | assumption); (case zkdz => ktr_room); (case zkuz => ktr_units)); intro zt9z zh9z ztk9z zF9z zN9z; (try dsimp only); (try k_fold); (try k_sweep)) | ((with_reducible show wpAny _ _ (PySem.call (Value.ref 130) [Value.ref _]) _ _ _); k_dflt (refine' octet_call _ _ _ _ _ _ _ _ _ ?zUz ?zh0z ?zhb0z ?zhbz _ _ _ _ _ _ _ _ _ _ _ _ _ _ _ _ _ _ _ _ ?zkBz ?zkFz ?zkXz ?zkNz ?zkTz ?zkkz ?zkdz ?zkuz ?_; (case zkBz => k_asm); (case zkFz => k_asm); (case zkXz => k_asm); (case zkNz => k_asm); (case zkTz => k_asm); (case zkkz => first | exact rfl | assumption); (case zkdz => ktr_room); (case zkuz => ktr_units); (case zUz => k_updF); (case zh0z => assumption); (case zhb0z => assumption); (case zhbz => assumption)); intro zr9z zt9z zh9z ztk9z za9z zb9z zta9z ztb9z zhr0z zhr1z zha0z zhb0z zhb1z zF9z zN9z; (try dsimp only at zN9z); (try dsimp only); (try k_fold); (try k_sweep))); (try k_steps))))
      all_goals first | assumption | exact True.intro | exact off3_same off rfl
    unfold LCg.FinE
    intro D h tk F N off
    (try dsimp only at N off)
    have off2 := off
    simp only [LCg.Off1] at off2
    repeat (have h9 := off2.1; replace off2 := off2.2)
    obtain ⟨q1, q2, q3, tq1, tq2, tq3, rfl, rfl⟩ := three_of hys (by omega)
    (k_steps; repeat (any_goals ((refine unheld ?_; first | ((with_reducible show wpAny _ _ (PySem.call (Value.ref 149) [Value.int _ _]) _ _ _); k_dflt (refine' refused1_call _ _ _ _ _ _ _ _ _ _ _ _ _ _ _ _ _ _ _ _ _ ?zkBz ?zkFz ?zkXz ?zkNz ?zkTz ?zkkz ?zkdz ?zkuz ?_; (case zkBz => k_asm); (case zkFz => k_asm); (case zkXz => k_asm); (case zkNz => k_asm); (case zkTz => k_asm); (case zkkz => first | exact rfl | assumption); (case zkdz => ktr_room); (case zkuz => ktr_units)); intro zh9z ztk9z zF9z zN9z; (try dsimp only); (try k_fold); (try k_sweep)) | ((with_reducible show wpAny _ _ (PySem.call (Value.ref 149) [Value.int _ _]) _ _ _); k_dflt (refine' refused5_call _ _ _ _ _ _ _ _ _ _ _ _ _ _ _ _ _ _ _ _ _ ?zkBz ?zkFz ?zkXz ?zkNz ?zkTz ?zkkz ?zkdz ?zkuz ?_; (case zkBz => k_asm); (case zkFz => k_asm); (case zkXz => k_asm); (case zkNz => k_asm); (case zkTz => k_asm); (case zkkz => first | exact rfl | assumption); (case zkdz => ktr_room); (case zkuz => ktr_units)); intro zh9z ztk9z zF9z zN9z; (try dsimp only); (try k_fold); (try k_sweep)) | ((with_reducible show wpAny _ _ (PySem.call (Value.ref 97) [Value.ref _, Value.int _ _]) _ _ _); k_dflt (refine' pool_call _ _ _ _ _ _ ?zhnz ?zhiz _ _ _ _ _ _ _ _ _ _ _ _ _ _ _ _ _ _ _ _ ?zkBz ?zkFz ?zkXz ?zkNz ?zkTz ?zkkz ?zkdz ?zkuz ?_; (case zkBz => k_asm); (case zkFz => k_asm); (case zkXz => k_asm); (case zkNz => k_asm); (case zkTz => k_asm); (case zkkz => first | exact rfl | assumption); (case zkdz => ktr_room); (case zkuz => ktr_units); (case zhiz => assumption); (case zhnz => omega)); (refine And.intro (by assumption) ?_; intro zD9z za9z zb9z zta9z ztb9z zh9z ztk9z zha9z zhb9z hb9' F9 N9 l9; (have zl8z := PySem.W.allLt_of l9); (simp only [PySem.W.AllLt] at zl8z)); (try dsimp only); (try k_fold); (try k_sweep)) | ((with_reducible show wpAny _ _ (PySem.call (Value.ref 123) [Value.int _ _, Value.int _ _, Value.int _ _, Value.int _ _]) _ _ _); k_dflt (refine' lguess_call _ _ _ _ _ _ _ _ _ _ ?zh0z ?zh1z _ _ _ _ _ _ _ _ _ _ _ _ _ _ _ _ _ _ _ _ ?zkBz ?zkFz ?zkXz ?zkNz ?zkTz ?zkkz ?zkdz ?zkuz ?_; (case zkBz => k_asm); (case zkFz => k_asm); (case zkXz => k_asm); (case zkNz => k_asm); (case zkTz => k_asm); (case zkkz => first | exact rfl | assumption); (case zkdz => ktr_room); (case zkuz => ktr_units); (case zh0z => first | assumption | omega); (case zh1z => first | assumption | omega)); intro zt9z zh9z ztk9z zF9z zN9z; (try dsimp only); (try k_fold); (try k_sweep)) | ((with_reducible show wpAny _ _ (PySem.call (Value.ref 64) [Value.int _ _, Value.int _ _, Value.int _ _, Value.int _ _]) _ _ _); k_dflt (refine' guess_call _ _ _ _ _ _ _ _ _ _ ?zh0z ?zh1z _ _ _ _ _ _ _ _ _ _ _ _ _ _ _ _ _ _ _ _ ?zkBz ?zkFz ?zkXz ?zkNz ?zkTz ?zkkz ?zkdz ?zkuz ?_; (case zkBz => k_asm); (case zkFz => k_asm); (case zkXz => k_asm); (case zkNz => k_asm); (case zkTz => k_asm); (case zkkz => first | exact rfl | assumption); (case zkdz => ktr_room); (case zkuz => ktr_units); (case zh0z => first | assumption | omega); (case zh1z => first | assumption | omega)); intro zt9z zh9z ztk9z zF9z zN9z; (try dsimp only); (try k_fold); (try k_sweep)) | ((with_reducible show wpAny _ _ (PySem.call (Value.ref 116) [Value.int _ _, Value.int _ _, Value.int _ _]) _ _ _); k_dflt (refine' lnear_call _ _ _ _ _ _ _ _ _ _ _ _ _ _ _ _ _ _ _ _ _ _ _ _ _ _ _ _ ?zkBz ?zkFz ?zkXz ?zkNz ?zkTz ?zkkz ?zkdz ?zkuz ?_; (case zkBz => k_asm); (case zkFz => k_asm); (case zkXz => k_asm); (case zkNz => k_asm); (case zkTz => k_asm); (case zkkz => first | exact rfl | assumption); (case zkdz => ktr_room); (case zkuz => ktr_units)); intro zt9z zh9z ztk9z zF9z zN9z; (try dsimp only); (try k_fold); (try k_sweep)) | ((with_reducible show wpAny _ _ (PySem.call (Value.ref 57) [Value.int _ _, Value.int _ _, Value.int _ _]) _ _ _); k_dflt (refine' nearest_call _ _ _ _ _ _ _ _ _ _ _ _ _ _ _ _ _ _ _ _ _ _ _ _ _ _ _ _ ?zkBz ?zkFz ?zkXz ?zkNz ?zkTz ?zkkz ?zkdz ?zkuz ?_; (case zkBz => k_asm); (case zkFz => k_asm); (case zkXz => k_asm); (case zkNz => k_asm); (case zkTz => k_asm); (case zkkz => first | exact rfl | assumption); (case zkdz => ktr_room); (case zkuz => ktr_units)); intro zt9z zh9z ztk9z zF9z zN9z; (try dsimp only); (try k_fold); (try k_sweep)) | ((with_reducible show wpAny _ _ (PySem.call (Value.ref 130) [Value.ref _]) _ _ _); k_dflt (refine' octet_call _ _ _ _ _ _ _ _ _ ?zUz ?zh0z ?zhb0z ?zhbz _ _ _ _ _ _ _ _ _ _ _ _ _ _ _ _ _ _ _ _ ?zkBz ?zkFz ?zkXz ?zkNz ?zkTz ?zkkz ?zkdz ?zkuz ?_; (case zkBz => k_asm); (case zkFz => k_asm); (case zkXz => k_asm); (case zkNz => k_asm); (case zkTz => k_asm); (case zkkz => first | exact rfl | assumption); (case zkdz => ktr_room); (case zkuz => ktr_units); (case zUz => k_updF); (case zh0z => assumption); (case zhb0z => assumption); (case zhbz => assumption)); intro zr9z zt9z zh9z ztk9z za9z zb9z zta9z ztb9z zhr0z zhr1z zha0z zhb0z zhb1z zF9z zN9z; (try dsimp only at zN9z); (try dsimp only); (try k_fold); (try k_sweep))); (try k_steps))))
    · exact absurd rfl (by assumption : nearestF q1 q2 q3 ≠ nearestF q1 q2 q3)
    refine rangeInts_goal (n := 5) rfl (by assumption) rfl (by decide) (by k_asm) (by k_asm) (fun k => guessF k q1 q2 q3) (fun i t' ys I oI C oC D m₂ h tk E' hi hC hx F N off ne => ?_) (fun g ys21 hW21 => ?_)
    · have off2 := off
      simp only [LCg.Off3] at off2
      repeat (have h9 := off2.1.1; have h9 := off2.1.2.1; have h9 := off2.1.2.2; replace off2 := off2.2)
      have h9 := ne.1; have h9 := ne.2.1; have h9 := ne.2.2; clear ne
      have hk0 : 0 ≤ ((i : Nat) : Int) := by omega
      have hk5 : ((i : Nat) : Int) < 5 := by omega
      refine postA fun Q8 E8 hQ8 hE8 => ?_
      (k_steps; repeat (any_goals ((refine unheld ?_; first | ((with_reducible show wpAny _ _ (PySem.call (Value.ref 149) [Value.int _ _]) _ _ _); k_dflt (refine' refused1_call _ _ _ _ _ _ _ _ _ _ _ _ _ _ _ _ _ _ _ _ _ ?zkBz ?zkFz ?zkXz ?zkNz ?zkTz ?zkkz ?zkdz ?zkuz ?_; (case zkBz => k_asm); (case zkFz => k_asm); (case zkXz => k_asm); (case zkNz => k_asm); (case zkTz => k_asm); (case zkkz => first | exact rfl | assumption); (case zkdz => ktr_room); (case zkuz => ktr_units)); intro zh9z ztk9z zF9z zN9z; (try dsimp only); (try k_fold); (try k_sweep)) | ((with_reducible show wpAny _ _ (PySem.call (Value.ref 149) [Value.int _ _]) _ _ _); k_dflt (refine' refused5_call _ _ _ _ _ _ _ _ _ _ _ _ _ _ _ _ _ _ _ _ _ ?zkBz ?zkFz ?zkXz ?zkNz ?zkTz ?zkkz ?zkdz ?zkuz ?_; (case zkBz => k_asm); (case zkFz => k_asm); (case zkXz => k_asm); (case zkNz => k_asm); (case zkTz => k_asm); (case zkkz => first | exact rfl | assumption); (case zkdz => ktr_room); (case zkuz => ktr_units)); intro zh9z ztk9z zF9z zN9z; (try dsimp only); (try k_fold); (try k_sweep)) | ((with_reducible show wpAny _ _ (PySem.call (Value.ref 97) [Value.ref _, Value.int _ _]) _ _ _); k_dflt (refine' pool_call _ _ _ _ _ _ ?zhnz ?zhiz _ _ _ _ _ _ _ _ _ _ _ _ _ _ _ _ _ _ _ _ ?zkBz ?zkFz ?zkXz ?zkNz ?zkTz ?zkkz ?zkdz ?zkuz ?_; (case zkBz => k_asm); (case zkFz => k_asm); (case zkXz => k_asm); (case zkNz => k_asm); (case zkTz => k_asm); (case zkkz => first | exact rfl | assumption); (case zkdz => ktr_room); (case zkuz => ktr_units); (case zhiz => assumption); (case zhnz => omega)); (refine And.intro (by assumption) ?_; intro zD9z za9z zb9z zta9z ztb9z zh9z ztk9z zha9z zhb9z hb9' F9 N9 l9; (have zl8z := PySem.W.allLt_of l9); (simp only [PySem.W.AllLt] at zl8z)); (try dsimp only); (try k_fold); (try k_sweep)) | ((with_reducible show wpAny _ _ (PySem.call (Value.ref 123) [Value.int _ _, Value.int _ _, Value.int _ _, Value.int _ _]) _ _ _); k_dflt (refine' lguess_call _ _ _ _ _ _ _ _ _ _ ?zh0z ?zh1z _ _ _ _ _ _ _ _ _ _ _ _ _ _ _ _ _ _ _ _ ?zkBz ?zkFz ?zkXz ?zkNz ?zkTz ?zkkz ?zkdz ?zkuz ?_; (case zkBz => k_asm); (case zkFz => k_asm); (case zkXz => k_asm); (case zkNz => k_asm); (case zkTz => k_asm); (case zkkz => first | exact rfl | assumption); (case zkdz => ktr_room); (case zkuz => ktr_units); (case zh0z => first | assumption | omega); (case zh1z => first | assumption | omega)); intro zt9z zh9z ztk9z zF9z zN9z; (try dsimp only); (try k_fold); (try k_sweep)) | ((with_reducible show wpAny _ _ (PySem.call (Value.ref 64) [Value.int _ _, Value.int _ _, Value.int _ _, Value.int _ _]) _ _ _); k_dflt (refine' guess_call _ _ _ _ _ _ _ _ _ _ ?zh0z ?zh1z _ _ _ _ _ _ _ _ _ _ _ _ _ _ _ _ _ _ _ _ ?zkBz ?zkFz ?zkXz ?zkNz ?zkTz ?zkkz ?zkdz ?zkuz ?_; (case zkBz => k_asm); (case zkFz => k_asm); (case zkXz => k_asm); (case zkNz => k_asm); (case zkTz => k_asm); (case zkkz => first | exact rfl | assumption); (case zkdz => ktr_room); (case zkuz => ktr_units); (case zh0z => first | assumption | omega); (case zh1z => first | assumption | omega)); intro zt9z zh9z ztk9z zF9z zN9z; (try dsimp only); (try k_fold); (try k_sweep)) | ((with_reducible show wpAny _ _ (PySem.call (Value.ref 116) [Value.int _ _, Value.int _ _, Value.int _ _]) _ _ _); k_dflt (refine' lnear_call _ _ _ _ _ _ _ _ _ _ _ _ _ _ _ _ _ _ _ _ _ _ _ _ _ _ _ _ ?zkBz ?zkFz ?zkXz ?zkNz ?zkTz ?zkkz ?zkdz ?zkuz ?_; (case zkBz => k_asm); (case zkFz => k_asm); (case zkXz => k_asm); (case zkNz => k_asm); (case zkTz => k_asm); (case zkkz => first | exact rfl | assumption); (case zkdz => ktr_room); (case zkuz => ktr_units)); intro zt9z zh9z ztk9z zF9z zN9z; (try dsimp only); (try k_fold); (try k_sweep)) | ((with_reducible show wpAny _ _ (PySem.call (Value.ref 57) [Value.int _ _, Value.int _ _, Value.int _ _]) _ _ _); k_dflt (refine' nearest_call _ _ _ _ _ _ _ _ _ _ _ _ _ _ _ _ _ _ _ _ _ _ _ _ _ _ _ _ ?zkBz ?zkFz ?zkXz ?zkNz ?zkTz ?zkkz ?zkdz ?zkuz ?_; (case zkBz => k_asm); (case zkFz => k_asm); (case zkXz => k_asm); (case zkNz => k_asm); (case zkTz => k_asm); (case zkkz => first | exact rfl | assumption); (case zkdz => ktr_room); (case zkuz => ktr_units)); intro zt9z zh9z ztk9z zF9z zN9z; (try dsimp only); (try k_fold); (try k_sweep)) | ((with_reducible show wpAny _ _ (PySem.call (Value.ref 130) [Value.ref _]) _ _ _); k_dflt (refine' octet_call _ _ _ _ _ _ _ _ _ ?zUz ?zh0z ?zhb0z ?zhbz _ _ _ _ _ _ _ _ _ _ _ _ _ _ _ _ _ _ _ _ ?zkBz ?zkFz ?zkXz ?zkNz ?zkTz ?zkkz ?zkdz ?zkuz ?_; (case zkBz => k_asm); (case zkFz => k_asm); (case zkXz => k_asm); (case zkNz => k_asm); (case zkTz => k_asm); (case zkkz => first | exact rfl | assumption); (case zkdz => ktr_room); (case zkuz => ktr_units); (case zUz => k_updF); (case zh0z => assumption); (case zhb0z => assumption); (case zhbz => assumption)); intro zr9z zt9z zh9z ztk9z za9z zb9z zta9z ztb9z zhr0z zhr1z zha0z zhb0z zhb1z zF9z zN9z; (try dsimp only at zN9z); (try dsimp only); (try k_fold); (try k_sweep))); (try k_steps))))
      refine hQ8 _ _ ?_
      (k_steps; repeat (any_goals ((refine unheld ?_; first | ((with_reducible show wpAny _ _ (PySem.call (Value.ref 149) [Value.int _ _]) _ _ _); k_dflt (refine' refused1_call _ _ _ _ _ _ _ _ _ _ _ _ _ _ _ _ _ _ _ _ _ ?zkBz ?zkFz ?zkXz ?zkNz ?zkTz ?zkkz ?zkdz ?zkuz ?_; (case zkBz => k_asm); (case zkFz => k_asm); (case zkXz => k_asm); (case zkNz => k_asm); (case zkTz => k_asm); (case zkkz => first | exact rfl | assumption); (case zkdz => ktr_room); (case zkuz => ktr_units)); intro zh9z ztk9z zF9z zN9z; (try dsimp only); (try k_fold); (try k_sweep)) | ((with_reducible show wpAny _ _ (PySem.call (Value.ref 149) [Value.int _ _]) _ _ _); k_dflt (refine' refused5_call _ _ _ _ _ _ _ _ _ _ _ _ _ _ _ _ _ _ _ _ _ ?zkBz ?zkFz ?zkXz ?zkNz ?zkTz ?zkkz ?zkdz ?zkuz ?_; (case zkBz => k_asm); (case zkFz => k_asm); (case zkXz => k_asm); (case zkNz => k_asm); (case zkTz => k_asm); (case zkkz => first | exact rfl | assumption); (case zkdz => ktr_room); (case zkuz => ktr_units)); intro zh9z ztk9z zF9z zN9z; (try dsimp only); (try k_fold); (try k_sweep)) | ((with_reducible show wpAny _ _ (PySem.call (Value.ref 97) [Value.ref _, Value.int _ _]) _ _ _); k_dflt (refine' pool_call _ _ _ _ _ _ ?zhnz ?zhiz _ _ _ _ _ _ _ _ _ _ _ _ _ _ _ _ _ _ _ _ ?zkBz ?zkFz ?zkXz ?zkNz ?zkTz ?zkkz ?zkdz ?zkuz ?_; (case zkBz => k_asm); (case zkFz => k_asm); (case zkXz => k_asm); (case zkNz => k_asm); (case zkTz => k_asm); (case zkkz => first | exact rfl | assumption); (case zkdz => ktr_room); (case zkuz => ktr_units); (case zhiz => assumption); (case zhnz => omega)); (refine And.intro (by assumption) ?_; intro zD9z za9z zb9z zta9z ztb9z zh9z ztk9z zha9z zhb9z hb9' F9 N9 l9; (have zl8z := PySem.W.allLt_of l9); (simp only [PySem.W.AllLt] at zl8z)); (try dsimp only); (try k_fold); (try k_sweep)) | ((with_reducible show wpAny _ _ (PySem.call (Value.ref 123) [Value.int _ _, Value.int _ _, Value.int _ _, Value.int _ _]) _ _ _); k_dflt (refine' lguess_call _ _ _ _ _ _ _ _ _ _ ?zh0z ?zh1z _ _ _ _ _ _ _ _ _ _ _ _ _ _ _ _ _ _ _ _ ?zkBz ?zkFz ?zkXz ?zkNz ?zkTz ?zkkz ?zkdz ?zkuz ?_; (case zkBz => k_asm); (case zkFz => k_asm); (case zkXz => k_asm); (case zkNz => k_asm); (case zkTz => k_asm); (case zkkz => first | exact rfl | assumption); (case zkdz => ktr_room); (case zkuz => ktr_units); (case zh0z => first | assumption | omega); (case zh1z => first | assumption | omega)); intro zt9z zh9z ztk9z zF9z zN9z; (try dsimp only); (try k_fold); (try k_sweep)) | ((with_reducible show wpAny _ _ (PySem.call (Value.ref 64) [Value.int _ _, Value.int _ _, Value.int _ _, Value.int _ _]) _ _ _); k_dflt (refine' guess_call _ _ _ _ _ _ _ _ _ _ ?zh0z ?zh1z _ _ _ _ _ _ _ _ _ _ _ _ _ _ _ _ _ _ _ _ ?zkBz ?zkFz ?zkXz ?zkNz ?zkTz ?zkkz ?zkdz ?zkuz ?_; (case zkBz => k_asm); (case zkFz => k_asm); (case zkXz => k_asm); (case zkNz => k_asm); (case zkTz => k_asm); (case zkkz => first | exact rfl | assumption); (case zkdz => ktr_room); (case zkuz => ktr_units); (case zh0z => first | assumption | omega); (case zh1z => first | assumption | omega)); intro zt9z zh9z ztk9z zF9z zN9z; (try dsimp only); (try k_fold); (try k_sweep)) | ((with_reducible show wpAny _ _ (PySem.call (Value.ref 116) [Value.int _ _, Value.int _ _, Value.int _ _]) _ _ _); k_dflt (refine' lnear_call _ _ _ _ _ _ _ _ _ _ _ _ _ _ _ _ _ _ _ _ _ _ _ _ _ _ _ _ ?zkBz ?zkFz ?zkXz ?zkNz ?zkTz ?zkkz ?zkdz ?zkuz ?_; (case zkBz => k_asm); (case zkFz => k_asm); (case zkXz => k_asm); (case zkNz => k_asm); (case zkTz => k_asm); (case zkkz => first | exact rfl | assumption); (case zkdz => ktr_room); (case zkuz => ktr_units)); intro zt9z zh9z ztk9z zF9z zN9z; (try dsimp only); (try k_fold); (try k_sweep)) | ((with_reducible show wpAny _ _ (PySem.call (Value.ref 57) [Value.int _ _, Value.int _ _, Value.int _ _]) _ _ _); k_dflt (refine' nearest_call _ _ _ _ _ _ _ _ _ _ _ _ _ _ _ _ _ _ _ _ _ _ _ _ _ _ _ _ ?zkBz ?zkFz ?zkXz ?zkNz ?zkTz ?zkkz ?zkdz ?zkuz ?_; (case zkBz => k_asm); (case zkFz => k_asm); (case zkXz => k_asm); (case zkNz => k_asm); (case zkTz => k_asm); (case zkkz => first | exact rfl | assumption); (case zkdz => ktr_room); (case zkuz => ktr_units)); intro zt9z zh9z ztk9z zF9z zN9z; (try dsimp only); (try k_fold); (try k_sweep)) | ((with_reducible show wpAny _ _ (PySem.call (Value.ref 130) [Value.ref _]) _ _ _); k_dflt (refine' octet_call _ _ _ _ _ _ _ _ _ ?zUz ?zh0z ?zhb0z ?zhbz _ _ _ _ _ _ _ _ _ _ _ _ _ _ _ _ _ _ _ _ ?zkBz ?zkFz ?zkXz ?zkNz ?zkTz ?zkkz ?zkdz ?zkuz ?_; (case zkBz => k_asm); (case zkFz => k_asm); (case zkXz => k_asm); (case zkNz => k_asm); (case zkTz => k_asm); (case zkkz => first | exact rfl | assumption); (case zkdz => ktr_room); (case zkuz => ktr_units); (case zUz => k_updF); (case zh0z => assumption); (case zhb0z => assumption); (case zhbz => assumption)); intro zr9z zt9z zh9z ztk9z za9z zb9z zta9z ztb9z zhr0z zhr1z zha0z zhb0z zhb1z zF9z zN9z; (try dsimp only at zN9z); (try dsimp only); (try k_fold); (try k_sweep))); (try k_steps))))
    unfold LCg.FinE
    intro D21 h21 tk21 F N off
    have off21 := off
    simp only [LCg.Off1] at off21
    repeat (have h9 := off21.1; replace off21 := off21.2)
    obtain ⟨gl, hgl⟩ : ∃ gl : List Int, gl = (List.range 5).map (fun i : Nat => guessF (i : Int) q1 q2 q3) := ⟨_, rfl⟩
    rw [← hgl] at hW21
    (k_steps; repeat (any_goals ((refine unheld ?_; first | ((with_reducible show wpAny _ _ (PySem.call (Value.ref 149) [Value.int _ _]) _ _ _); k_dflt (refine' refused1_call _ _ _ _ _ _ _ _ _ _ _ _ _ _ _ _ _ _ _ _ _ ?zkBz ?zkFz ?zkXz ?zkNz ?zkTz ?zkkz ?zkdz ?zkuz ?_; (case zkBz => k_asm); (case zkFz => k_asm); (case zkXz => k_asm); (case zkNz => k_asm); (case zkTz => k_asm); (case zkkz => first | exact rfl | assumption); (case zkdz => ktr_room); (case zkuz => ktr_units)); intro zh9z ztk9z zF9z zN9z; (try dsimp only); (try k_fold); (try k_sweep)) | ((with_reducible show wpAny _ _ (PySem.call (Value.ref 149) [Value.int _ _]) _ _ _); k_dflt (refine' refused5_call _ _ _ _ _ _ _ _ _ _ _ _ _ _ _ _ _ _ _ _ _ ?zkBz ?zkFz ?zkXz ?zkNz ?zkTz ?zkkz ?zkdz ?zkuz ?_; (case zkBz => k_asm); (case zkFz => k_asm); (case zkXz => k_asm); (case zkNz => k_asm); (case zkTz => k_asm); (case zkkz => first | exact rfl | assumption); (case zkdz => ktr_room); (case zkuz => ktr_units)); intro zh9z ztk9z zF9z zN9z; (try dsimp only); (try k_fold); (try k_sweep)) | ((with_reducible show wpAny _ _ (PySem.call (Value.ref 97) [Value.ref _, Value.int _ _]) _ _ _); k_dflt (refine' pool_call _ _ _ _ _ _ ?zhnz ?zhiz _ _ _ _ _ _ _ _ _ _ _ _ _ _ _ _ _ _ _ _ ?zkBz ?zkFz ?zkXz ?zkNz ?zkTz ?zkkz ?zkdz ?zkuz ?_; (case zkBz => k_asm); (case zkFz => k_asm); (case zkXz => k_asm); (case zkNz => k_asm); (case zkTz => k_asm); (case zkkz => first | exact rfl | assumption); (case zkdz => ktr_room); (case zkuz => ktr_units); (case zhiz => assumption); (case zhnz => omega)); (refine And.intro (by assumption) ?_; intro zD9z za9z zb9z zta9z ztb9z zh9z ztk9z zha9z zhb9z hb9' F9 N9 l9; (have zl8z := PySem.W.allLt_of l9); (simp only [PySem.W.AllLt] at zl8z)); (try dsimp only); (try k_fold); (try k_sweep)) | ((with_reducible show wpAny _ _ (PySem.call (Value.ref 123) [Value.int _ _, Value.int _ _, Value.int _ _, Value.int _ _]) _ _ _); k_dflt (refine' lguess_call _ _ _ _ _ _ _ _ _ _ ?zh0z ?zh1z _ _ _ _ _ _ _ _ _ _ _ _ _ _ _ _ _ _ _ _ ?zkBz ?zkFz ?zkXz ?zkNz ?zkTz ?zkkz ?zkdz ?zkuz ?_; (case zkBz => k_asm); (case zkFz => k_asm); (case zkXz => k_asm); (case zkNz => k_asm); (case zkTz => k_asm); (case zkkz => first | exact rfl | assumption); (case zkdz => ktr_room); (case zkuz => ktr_units); (case zh0z => first | assumption | omega); (case zh1z => first | assumption | omega)); intro zt9z zh9z ztk9z zF9z zN9z; (try dsimp only); (try k_fold); (try k_sweep)) | ((with_reducible show wpAny _ _ (PySem.call (Value.ref 64) [Value.int _ _, Value.int _ _, Value.int _ _, Value.int _ _]) _ _ _); k_dflt (refine' guess_call _ _ _ _ _ _ _ _ _ _ ?zh0z ?zh1z _ _ _ _ _ _ _ _ _ _ _ _ _ _ _ _ _ _ _ _ ?zkBz ?zkFz ?zkXz ?zkNz ?zkTz ?zkkz ?zkdz ?zkuz ?_; (case zkBz => k_asm); (case zkFz => k_asm); (case zkXz => k_asm); (case zkNz => k_asm); (case zkTz => k_asm); (case zkkz => first | exact rfl | assumption); (case zkdz => ktr_room); (case zkuz => ktr_units); (case zh0z => first | assumption | omega); (case zh1z => first | assumption | omega)); intro zt9z zh9z ztk9z zF9z zN9z; (try dsimp only); (try k_fold); (try k_sweep)) | ((with_reducible show wpAny _ _ (PySem.call (Value.ref 116) [Value.int _ _, Value.int _ _, Value.int _ _]) _ _ _); k_dflt (refine' lnear_call _ _ _ _ _ _ _ _ _ _ _ _ _ _ _ _ _ _ _ _ _ _ _ _ _ _ _ _ ?zkBz ?zkFz ?zkXz ?zkNz ?zkTz ?zkkz ?zkdz ?zkuz ?_; (case zkBz => k_asm); (case zkFz => k_asm); (case zkXz => k_asm); (case zkNz => k_asm); (case zkTz => k_asm); (case zkkz => first | exact rfl | assumption); (case zkdz => ktr_room); (case zkuz => ktr_units)); intro zt9z zh9z ztk9z zF9z zN9z; (try dsimp only); (try k_fold); (try k_sweep)) | ((with_reducible show wpAny _ _ (PySem.call (Value.ref 57) [Value.int _ _, Value.int _ _, Value.int _ _]) _ _ _); k_dflt (refine' nearest_call _ _ _ _ _ _ _ _ _ _ _ _ _ _ _ _ _ _ _ _ _ _ _ _ _ _ _ _ ?zkBz ?zkFz ?zkXz ?zkNz ?zkTz ?zkkz ?zkdz ?zkuz ?_; (case zkBz => k_asm); (case zkFz => k_asm); (case zkXz => k_asm); (case zkNz => k_asm); (case zkTz => k_asm); (case zkkz => first | exact rfl | assumption); (case zkdz => ktr_room); (case zkuz => ktr_units)); intro zt9z zh9z ztk9z zF9z zN9z; (try dsimp only); (try k_fold); (try k_sweep)) | ((with_reducible show wpAny _ _ (PySem.call (Value.ref 130) [Value.ref _]) _ _ _); k_dflt (refine' octet_call _ _ _ _ _ _ _ _ _ ?zUz ?zh0z ?zhb0z ?zhbz _ _ _ _ _ _ _ _ _ _ _ _ _ _ _ _ _ _ _ _ ?zkBz ?zkFz ?zkXz ?zkNz ?zkTz ?zkkz ?zkdz ?zkuz ?_; (case zkBz => k_asm); (case zkFz => k_asm); (case zkXz => k_asm); (case zkNz => k_asm); (case zkTz => k_asm); (case zkkz => first | exact rfl | assumption); (case zkdz => ktr_room); (case zkuz => ktr_units); (case zUz => k_updF); (case zh0z => assumption); (case zhb0z => assumption); (case zhbz => assumption)); intro zr9z zt9z zh9z ztk9z za9z zb9z zta9z ztb9z zhr0z zhr1z zha0z zhb0z zhb1z zF9z zN9z; (try dsimp only at zN9z); (try dsimp only); (try k_fold); (try k_sweep))); (try k_steps))))
    refine rangeInts_goal (n := 5) rfl (by assumption) rfl (by decide) (by k_asm) (by k_asm) (fun k => guessF k q1 q2 q3) (fun i t' ys I oI C oC D m₂ h tk E' hi hC hx F N off ne => ?_) (fun g ys22 hW22 => ?_)
    · have off2 := off
      simp only [LCg.Off3] at off2
      repeat (have h9 := off2.1.1; have h9 := off2.1.2.1; have h9 := off2.1.2.2; replace off2 := off2.2)
      have h9 := ne.1; have h9 := ne.2.1; have h9 := ne.2.2; clear ne
      have hk0 : 0 ≤ ((i : Nat) : Int) := by omega
      have hk5 : ((i : Nat) : Int) < 5 := by omega
      refine postA fun Q8 E8 hQ8 hE8 => ?_
      (k_steps; repeat (any_goals ((refine unheld ?_; first | ((with_reducible show wpAny _ _ (PySem.call (Value.ref 149) [Value.int _ _]) _ _ _); k_dflt (refine' refused1_call _ _ _ _ _ _ _ _ _ _ _ _ _ _ _ _ _ _ _ _ _ ?zkBz ?zkFz ?zkXz ?zkNz ?zkTz ?zkkz ?zkdz ?zkuz ?_; (case zkBz => k_asm); (case zkFz => k_asm); (case zkXz => k_asm); (case zkNz => k_asm); (case zkTz => k_asm); (case zkkz => first | exact rfl | assumption); (case zkdz => ktr_room); (case zkuz => ktr_units)); intro zh9z ztk9z zF9z zN9z; (try dsimp only); (try k_fold); (try k_sweep)) | ((with_reducible show wpAny _ _ (PySem.call (Value.ref 149) [Value.int _ _]) _ _ _); k_dflt (refine' refused5_call _ _ _ _ _ _ _ _ _ _ _ _ _ _ _ _ _ _ _ _ _ ?zkBz ?zkFz ?zkXz ?zkNz ?zkTz ?zkkz ?zkdz ?zkuz ?_; (case zkBz => k_asm); (case zkFz => k_asm); (case zkXz => k_asm); (case zkNz => k_asm); (case zkTz => k_asm); (case zkkz => first | exact rfl | assumption); (case zkdz => ktr_room); (case zkuz => ktr_units)); intro zh9z ztk9z zF9z zN9z; (try dsimp only); (try k_fold); (try k_sweep)) | ((with_reducible show wpAny _ _ (PySem.call (Value.ref 97) [Value.ref _, Value.int _ _]) _ _ _); k_dflt (refine' pool_call _ _ _ _ _ _ ?zhnz ?zhiz _ _ _ _ _ _ _ _ _ _ _ _ _ _ _ _ _ _ _ _ ?zkBz ?zkFz ?zkXz ?zkNz ?zkTz ?zkkz ?zkdz ?zkuz ?_; (case zkBz => k_asm); (case zkFz => k_asm); (case zkXz => k_asm); (case zkNz => k_asm); (case zkTz => k_asm); (case zkkz => first | exact rfl | assumption); (case zkdz => ktr_room); (case zkuz => ktr_units); (case zhiz => assumption); (case zhnz => omega)); (refine And.intro (by assumption) ?_; intro zD9z za9z zb9z zta9z ztb9z zh9z ztk9z zha9z zhb9z hb9' F9 N9 l9; (have zl8z := PySem.W.allLt_of l9); (simp only [PySem.W.AllLt] at zl8z)); (try dsimp only); (try k_fold); (try k_sweep)) | ((with_reducible show wpAny _ _ (PySem.call (Value.ref 123) [Value.int _ _, Value.int _ _, Value.int _ _, Value.int _ _]) _ _ _); k_dflt (refine' lguess_call _ _ _ _ _ _ _ _ _ _ ?zh0z ?zh1z _ _ _ _ _ _ _ _ _ _ _ _ _ _ _ _ _ _ _ _ ?zkBz ?zkFz ?zkXz ?zkNz ?zkTz ?zkkz ?zkdz ?zkuz ?_; (case zkBz => k_asm); (case zkFz => k_asm); (case zkXz => k_asm); (case zkNz => k_asm); (case zkTz => k_asm); (case zkkz => first | exact rfl | assumption); (case zkdz => ktr_room); (case zkuz => ktr_units); (case zh0z => first | assumption | omega); (case zh1z => first | assumption | omega)); intro zt9z zh9z ztk9z zF9z zN9z; (try dsimp only); (try k_fold); (try k_sweep)) | ((with_reducible show wpAny _ _ (PySem.call (Value.ref 64) [Value.int _ _, Value.int _ _, Value.int _ _, Value.int _ _]) _ _ _); k_dflt (refine' guess_call _ _ _ _ _ _ _ _ _ _ ?zh0z ?zh1z _ _ _ _ _ _ _ _ _ _ _ _ _ _ _ _ _ _ _ _ ?zkBz ?zkFz ?zkXz ?zkNz ?zkTz ?zkkz ?zkdz ?zkuz ?_; (case zkBz => k_asm); (case zkFz => k_asm); (case zkXz => k_asm); (case zkNz => k_asm); (case zkTz => k_asm); (case zkkz => first | exact rfl | assumption); (case zkdz => ktr_room); (case zkuz => ktr_units); (case zh0z => first | assumption | omega); (case zh1z => first | assumption | omega)); intro zt9z zh9z ztk9z zF9z zN9z; (try dsimp only); (try k_fold); (try k_sweep)) | ((with_reducible show wpAny _ _ (PySem.call (Value.ref 116) [Value.int _ _, Value.int _ _, Value.int _ _]) _ _ _); k_dflt (refine' lnear_call _ _ _ _ _ _ _ _ _ _ _ _ _ _ _ _ _ _ _ _ _ _ _ _ _ _ _ _ ?zkBz ?zkFz ?zkXz ?zkNz ?zkTz ?zkkz ?zkdz ?zkuz ?_; (case zkBz => k_asm); (case zkFz => k_asm); (case zkXz => k_asm); (case zkNz => k_asm); (case zkTz => k_asm); (case zkkz => first | exact rfl | assumption); (case zkdz => ktr_room); (case zkuz => ktr_units)); intro zt9z zh9z ztk9z zF9z zN9z; (try dsimp only); (try k_fold); (try k_sweep)) | ((with_reducible show wpAny _ _ (PySem.call (Value.ref 57) [Value.int _ _, Value.int _ _, Value.int _ _]) _ _ _); k_dflt (refine' nearest_call _ _ _ _ _ _ _ _ _ _ _ _ _ _ _ _ _ _ _ _ _ _ _ _ _ _ _ _ ?zkBz ?zkFz ?zkXz ?zkNz ?zkTz ?zkkz ?zkdz ?zkuz ?_; (case zkBz => k_asm); (case zkFz => k_asm); (case zkXz => k_asm); (case zkNz => k_asm); (case zkTz => k_asm); (case zkkz => first | exact rfl | assumption); (case zkdz => ktr_room); (case zkuz => ktr_units)); intro zt9z zh9z ztk9z zF9z zN9z; (try dsimp only); (try k_fold); (try k_sweep)) | ((with_reducible show wpAny _ _ (PySem.call (Value.ref 130) [Value.ref _]) _ _ _); k_dflt (refine' octet_call _ _ _ _ _ _ _ _ _ ?zUz ?zh0z ?zhb0z ?zhbz _ _ _ _ _ _ _ _ _ _ _ _ _ _ _ _ _ _ _ _ ?zkBz ?zkFz ?zkXz ?zkNz ?zkTz ?zkkz ?zkdz ?zkuz ?_; (case zkBz => k_asm); (case zkFz => k_asm); (case zkXz => k_asm); (case zkNz => k_asm); (case zkTz => k_asm); (case zkkz => first | exact rfl | assumption); (case zkdz => ktr_room); (case zkuz => ktr_units); (case zUz => k_updF); (case zh0z => assumption); (case zhb0z => assumption); (case zhbz => assumption)); intro zr9z zt9z zh9z ztk9z za9z zb9z zta9z ztb9z zhr0z zhr1z zha0z zhb0z zhb1z zF9z zN9z; (try dsimp only at zN9z); (try dsimp only); (try k_fold); (try k_sweep))); (try k_steps))))
      refine hQ8 _ _ ?_
      (k_steps; repeat (any_goals ((refine unheld ?_; first | ((with_reducible show wpAny _ _ (PySem.call (Value.ref 149) [Value.int _ _]) _ _ _); k_dflt (refine' refused1_call _ _ _ _ _ _ _ _ _ _ _ _ _ _ _ _ _ _ _ _ _ ?zkBz ?zkFz ?zkXz ?zkNz ?zkTz ?zkkz ?zkdz ?zkuz ?_; (case zkBz => k_asm); (case zkFz => k_asm); (case zkXz => k_asm); (case zkNz => k_asm); (case zkTz => k_asm); (case zkkz => first | exact rfl | assumption); (case zkdz => ktr_room); (case zkuz => ktr_units)); intro zh9z ztk9z zF9z zN9z; (try dsimp only); (try k_fold); (try k_sweep)) | ((with_reducible show wpAny _ _ (PySem.call (Value.ref 149) [Value.int _ _]) _ _ _); k_dflt (refine' refused5_call _ _ _ _ _ _ _ _ _ _ _ _ _ _ _ _ _ _ _ _ _ ?zkBz ?zkFz ?zkXz ?zkNz ?zkTz ?zkkz ?zkdz ?zkuz ?_; (case zkBz => k_asm); (case zkFz => k_asm); (case zkXz => k_asm); (case zkNz => k_asm); (case zkTz => k_asm); (case zkkz => first | exact rfl | assumption); (case zkdz => ktr_room); (case zkuz => ktr_units)); intro zh9z ztk9z zF9z zN9z; (try dsimp only); (try k_fold); (try k_sweep)) | ((with_reducible show wpAny _ _ (PySem.call (Value.ref 97) [Value.ref _, Value.int _ _]) _ _ _); k_dflt (refine' pool_call _ _ _ _ _ _ ?zhnz ?zhiz _ _ _ _ _ _ _ _ _ _ _ _ _ _ _ _ _ _ _ _ ?zkBz ?zkFz ?zkXz ?zkNz ?zkTz ?zkkz ?zkdz ?zkuz ?_; (case zkBz => k_asm); (case zkFz => k_asm); (case zkXz => k_asm); (case zkNz => k_asm); (case zkTz => k_asm); (case zkkz => first | exact rfl | assumption); (case zkdz => ktr_room); (case zkuz => ktr_units); (case zhiz => assumption); (case zhnz => omega)); (refine And.intro (by assumption) ?_; intro zD9z za9z zb9z zta9z ztb9z zh9z ztk9z zha9z zhb9z hb9' F9 N9 l9; (have zl8z := PySem.W.allLt_of l9); (simp only [PySem.W.AllLt] at zl8z)); (try dsimp only); (try k_fold); (try k_sweep)) | ((with_reducible show wpAny _ _ (PySem.call (Value.ref 123) [Value.int _ _, Value.int _ _, Value.int _ _, Value.int _ _]) _ _ _); k_dflt (refine' lguess_call _ _ _ _ _ _ _ _ _ _ ?zh0z ?zh1z _ _ _ _ _ _ _ _ _ _ _ _ _ _ _ _ _ _ _ _ ?zkBz ?zkFz ?zkXz ?zkNz ?zkTz ?zkkz ?zkdz ?zkuz ?_; (case zkBz => k_asm); (case zkFz => k_asm); (case zkXz => k_asm); (case zkNz => k_asm); (case zkTz => k_asm); (case zkkz => first | exact rfl | assumption); (case zkdz => ktr_room); (case zkuz => ktr_units); (case zh0z => first | assumption | omega); (case zh1z => first | assumption | omega)); intro zt9z zh9z ztk9z zF9z zN9z; (try dsimp only); (try k_fold); (try k_sweep)) | ((with_reducible show wpAny _ _ (PySem.call (Value.ref 64) [Value.int _ _, Value.int _ _, Value.int _ _, Value.int _ _]) _ _ _); k_dflt (refine' guess_call _ _ _ _ _ _ _ _ _ _ ?zh0z ?zh1z _ _ _ _ _ _ _ _ _ _ _ _ _ _ _ _ _ _ _ _ ?zkBz ?zkFz ?zkXz ?zkNz ?zkTz ?zkkz ?zkdz ?zkuz ?_; (case zkBz => k_asm); (case zkFz => k_asm); (case zkXz => k_asm); (case zkNz => k_asm); (case zkTz => k_asm); (case zkkz => first | exact rfl | assumption); (case zkdz => ktr_room); (case zkuz => ktr_units); (case zh0z => first | assumption | omega); (case zh1z => first | assumption | omega)); intro zt9z zh9z ztk9z zF9z zN9z; (try dsimp only); (try k_fold); (try k_sweep)) | ((with_reducible show wpAny _ _ (PySem.call (Value.ref 116) [Value.int _ _, Value.int _ _, Value.int _ _]) _ _ _); k_dflt (refine' lnear_call _ _ _ _ _ _ _ _ _ _ _ _ _ _ _ _ _ _ _ _ _ _ _ _ _ _ _ _ ?zkBz ?zkFz ?zkXz ?zkNz ?zkTz ?zkkz ?zkdz ?zkuz ?_; (case zkBz => k_asm); (case zkFz => k_asm); (case zkXz => k_asm); (case zkNz => k_asm); (case zkTz => k_asm); (case zkkz => first | exact rfl | assumption); (case zkdz => ktr_room); (case zkuz => ktr_units)); intro zt9z zh9z ztk9z zF9z zN9z; (try dsimp only); (try k_fold); (try k_sweep)) | ((with_reducible show wpAny _ _ (PySem.call (Value.ref 57) [Value.int _ _, Value.int _ _, Value.int _ _]) _ _ _); k_dflt (refine' nearest_call _ _ _ _ _ _ _ _ _ _ _ _ _ _ _ _ _ _ _ _ _ _ _ _ _ _ _ _ ?zkBz ?zkFz ?zkXz ?zkNz ?zkTz ?zkkz ?zkdz ?zkuz ?_; (case zkBz => k_asm); (case zkFz => k_asm); (case zkXz => k_asm); (case zkNz => k_asm); (case zkTz => k_asm); (case zkkz => first | exact rfl | assumption); (case zkdz => ktr_room); (case zkuz => ktr_units)); intro zt9z zh9z ztk9z zF9z zN9z; (try dsimp only); (try k_fold); (try k_sweep)) | ((with_reducible show wpAny _ _ (PySem.call (Value.ref 130) [Value.ref _]) _ _ _); k_dflt (refine' octet_call _ _ _ _ _ _ _ _ _ ?zUz ?zh0z ?zhb0z ?zhbz _ _ _ _ _ _ _ _ _ _ _ _ _ _ _ _ _ _ _ _ ?zkBz ?zkFz ?zkXz ?zkNz ?zkTz ?zkkz ?zkdz ?zkuz ?_; (case zkBz => k_asm); (case zkFz => k_asm); (case zkXz => k_asm); (case zkNz => k_asm); (case zkTz => k_asm); (case zkkz => first | exact rfl | assumption); (case zkdz => ktr_room); (case zkuz => ktr_units); (case zUz => k_updF); (case zh0z => assumption); (case zhb0z => assumption); (case zhbz => assumption)); intro zr9z zt9z zh9z ztk9z za9z zb9z zta9z ztb9z zhr0z zhr1z zha0z zhb0z zhb1z zF9z zN9z; (try dsimp only at zN9z); (try dsimp only); (try k_fold); (try k_sweep))); (try k_steps))))
    unfold LCg.FinE
    intro D22 h22 tk22 F N off
    have off22 := off
    simp only [LCg.Off1] at off22
    repeat (have h9 := off22.1; replace off22 := off22.2)
    rw [← hgl] at hW22
    refine' ne_intsK (ns := gl) (ms := gl) ?k1 ?k2 ?k3 ?k4 ?k5 ?_
    case k1 => exact News.isList (by k_asm) (.tail _ (.head _))
    case k2 => assumption
    case k3 => exact News.isList (by k_asm) (.head _)
    case k4 => assumption
    case k5 => units_room
    rw [decide_eq_true rfl]
    (k_steps; repeat (any_goals ((refine unheld ?_; first | ((with_reducible show wpAny _ _ (PySem.call (Value.ref 149) [Value.int _ _]) _ _ _); k_dflt (refine' refused1_call _ _ _ _ _ _ _ _ _ _ _ _ _ _ _ _ _ _ _ _ _ ?zkBz ?zkFz ?zkXz ?zkNz ?zkTz ?zkkz ?zkdz ?zkuz ?_; (case zkBz => k_asm); (case zkFz => k_asm); (case zkXz => k_asm); (case zkNz => k_asm); (case zkTz => k_asm); (case zkkz => first | exact rfl | assumption); (case zkdz => ktr_room); (case zkuz => ktr_units)); intro zh9z ztk9z zF9z zN9z; (try dsimp only); (try k_fold); (try k_sweep)) | ((with_reducible show wpAny _ _ (PySem.call (Value.ref 149) [Value.int _ _]) _ _ _); k_dflt (refine' refused5_call _ _ _ _ _ _ _ _ _ _ _ _ _ _ _ _ _ _ _ _ _ ?zkBz ?zkFz ?zkXz ?zkNz ?zkTz ?zkkz ?zkdz ?zkuz ?_; (case zkBz => k_asm); (case zkFz => k_asm); (case zkXz => k_asm); (case zkNz => k_asm); (case zkTz => k_asm); (case zkkz => first | exact rfl | assumption); (case zkdz => ktr_room); (case zkuz => ktr_units)); intro zh9z ztk9z zF9z zN9z; (try dsimp only); (try k_fold); (try k_sweep)) | ((with_reducible show wpAny _ _ (PySem.call (Value.ref 97) [Value.ref _, Value.int _ _]) _ _ _); k_dflt (refine' pool_call _ _ _ _ _ _ ?zhnz ?zhiz _ _ _ _ _ _ _ _ _ _ _ _ _ _ _ _ _ _ _ _ ?zkBz ?zkFz ?zkXz ?zkNz ?zkTz ?zkkz ?zkdz ?zkuz ?_; (case zkBz => k_asm); (case zkFz => k_asm); (case zkXz => k_asm); (case zkNz => k_asm); (case zkTz => k_asm); (case zkkz => first | exact rfl | assumption); (case zkdz => ktr_room); (case zkuz => ktr_units); (case zhiz => assumption); (case zhnz => omega)); (refine And.intro (by assumption) ?_; intro zD9z za9z zb9z zta9z ztb9z zh9z ztk9z zha9z zhb9z hb9' F9 N9 l9; (have zl8z := PySem.W.allLt_of l9); (simp only [PySem.W.AllLt] at zl8z)); (try dsimp only); (try k_fold); (try k_sweep)) | ((with_reducible show wpAny _ _ (PySem.call (Value.ref 123) [Value.int _ _, Value.int _ _, Value.int _ _, Value.int _ _]) _ _ _); k_dflt (refine' lguess_call _ _ _ _ _ _ _ _ _ _ ?zh0z ?zh1z _ _ _ _ _ _ _ _ _ _ _ _ _ _ _ _ _ _ _ _ ?zkBz ?zkFz ?zkXz ?zkNz ?zkTz ?zkkz ?zkdz ?zkuz ?_; (case zkBz => k_asm); (case zkFz => k_asm); (case zkXz => k_asm); (case zkNz => k_asm); (case zkTz => k_asm); (case zkkz => first | exact rfl | assumption); (case zkdz => ktr_room); (case zkuz => ktr_units); (case zh0z => first | assumption | omega); (case zh1z => first | assumption | omega)); intro zt9z zh9z ztk9z zF9z zN9z; (try dsimp only); (try k_fold); (try k_sweep)) | ((with_reducible show wpAny _ _ (PySem.call (Value.ref 64) [Value.int _ _, Value.int _ _, Value.int _ _, Value.int _ _]) _ _ _); k_dflt (refine' guess_call _ _ _ _ _ _ _ _ _ _ ?zh0z ?zh1z _ _ _ _ _ _ _ _ _ _ _ _ _ _ _ _ _ _ _ _ ?zkBz ?zkFz ?zkXz ?zkNz ?zkTz ?zkkz ?zkdz ?zkuz ?_; (case zkBz => k_asm); (case zkFz => k_asm); (case zkXz => k_asm); (case zkNz => k_asm); (case zkTz => k_asm); (case zkkz => first | exact rfl | assumption); (case zkdz => ktr_room); (case zkuz => ktr_units); (case zh0z => first | assumption | omega); (case zh1z => first | assumption | omega)); intro zt9z zh9z ztk9z zF9z zN9z; (try dsimp only); (try k_fold); (try k_sweep)) | ((with_reducible show wpAny _ _ (PySem.call (Value.ref 116) [Value.int _ _, Value.int _ _, Value.int _ _]) _ _ _); k_dflt (refine' lnear_call _ _ _ _ _ _ _ _ _ _ _ _ _ _ _ _ _ _ _ _ _ _ _ _ _ _ _ _ ?zkBz ?zkFz ?zkXz ?zkNz ?zkTz ?zkkz ?zkdz ?zkuz ?_; (case zkBz => k_asm); (case zkFz => k_asm); (case zkXz => k_asm); (case zkNz => k_asm); (case zkTz => k_asm); (case zkkz => first | exact rfl | assumption); (case zkdz => ktr_room); (case zkuz => ktr_units)); intro zt9z zh9z ztk9z zF9z zN9z; (try dsimp only); (try k_fold); (try k_sweep)) | ((with_reducible show wpAny _ _ (PySem.call (Value.ref 57) [Value.int _ _, Value.int _ _, Value.int _ _]) _ _ _); k_dflt (refine' nearest_call _ _ _ _ _ _ _ _ _ _ _ _ _ _ _ _ _ _ _ _ _ _ _ _ _ _ _ _ ?zkBz ?zkFz ?zkXz ?zkNz ?zkTz ?zkkz ?zkdz ?zkuz ?_; (case zkBz => k_asm); (case zkFz => k_asm); (case zkXz => k_asm); (case zkNz => k_asm); (case zkTz => k_asm); (case zkkz => first | exact rfl | assumption); (case zkdz => ktr_room); (case zkuz => ktr_units)); intro zt9z zh9z ztk9z zF9z zN9z; (try dsimp only); (try k_fold); (try k_sweep)) | ((with_reducible show wpAny _ _ (PySem.call (Value.ref 130) [Value.ref _]) _ _ _); k_dflt (refine' octet_call _ _ _ _ _ _ _ _ _ ?zUz ?zh0z ?zhb0z ?zhbz _ _ _ _ _ _ _ _ _ _ _ _ _ _ _ _ _ _ _ _ ?zkBz ?zkFz ?zkXz ?zkNz ?zkTz ?zkkz ?zkdz ?zkuz ?_; (case zkBz => k_asm); (case zkFz => k_asm); (case zkXz => k_asm); (case zkNz => k_asm); (case zkTz => k_asm); (case zkkz => first | exact rfl | assumption); (case zkdz => ktr_room); (case zkuz => ktr_units); (case zUz => k_updF); (case zh0z => assumption); (case zhb0z => assumption); (case zhbz => assumption)); intro zr9z zt9z zh9z ztk9z za9z zb9z zta9z ztb9z zhr0z zhr1z zha0z zhb0z zhb1z zF9z zN9z; (try dsimp only at zN9z); (try dsimp only); (try k_fold); (try k_sweep))); (try k_steps))))
    refine hQ9 _ _ ?_
    refine ⟨rfl, _, _, _, a, b, ta, tb, _, _, _, _, _, _, rfl, by assumption, by assumption, by assumption, ha0, hb0, hb1, ?_, F, fun p hp => N p (.tail _ (.tail _ (.tail _ hp)))⟩
    intro y hy
    have hy' : y ≠ ("turn" : Str) := fun z => hy (by rw [z]; exact List.mem_singleton.mpr rfl)
    simp only [if_neg hy']
  · obtain ⟨x1, rfl⟩ := off1 hoff
    clear hoff
    (try dsimp only [lawLed] at N₂)
    refine wpN_execs_cons (wpN_Return (CallN ?_))
    (k_steps; repeat (any_goals ((refine unheld ?_; first | ((with_reducible show wpAny _ _ (PySem.call (Value.ref 149) [Value.int _ _]) _ _ _); k_dflt (refine' refused1_call _ _ _ _ _ _ _ _ _ _ _ _ _ _ _ _ _ _ _ _ _ ?zkBz ?zkFz ?zkXz ?zkNz ?zkTz ?zkkz ?zkdz ?zkuz ?_; (case zkBz => k_asm); (case zkFz => k_asm); (case zkXz => k_asm); (case zkNz => k_asm); (case zkTz => k_asm); (case zkkz => first | exact rfl | assumption); (case zkdz => ktr_room); (case zkuz => ktr_units)); intro zh9z ztk9z zF9z zN9z; (try dsimp only); (try k_fold); (try k_sweep)) | ((with_reducible show wpAny _ _ (PySem.call (Value.ref 149) [Value.int _ _]) _ _ _); k_dflt (refine' refused5_call _ _ _ _ _ _ _ _ _ _ _ _ _ _ _ _ _ _ _ _ _ ?zkBz ?zkFz ?zkXz ?zkNz ?zkTz ?zkkz ?zkdz ?zkuz ?_; (case zkBz => k_asm); (case zkFz => k_asm); (case zkXz => k_asm); (case zkNz => k_asm); (case zkTz => k_asm); (case zkkz => first | exact rfl | assumption); (case zkdz => ktr_room); (case zkuz => ktr_units)); intro zh9z ztk9z zF9z zN9z; (try dsimp only); (try k_fold); (try k_sweep)) | ((with_reducible show wpAny _ _ (PySem.call (Value.ref 97) [Value.ref _, Value.int _ _]) _ _ _); k_dflt (refine' pool_call _ _ _ _ _ _ ?zhnz ?zhiz _ _ _ _ _ _ _ _ _ _ _ _ _ _ _ _ _ _ _ _ ?zkBz ?zkFz ?zkXz ?zkNz ?zkTz ?zkkz ?zkdz ?zkuz ?_; (case zkBz => k_asm); (case zkFz => k_asm); (case zkXz => k_asm); (case zkNz => k_asm); (case zkTz => k_asm); (case zkkz => first | exact rfl | assumption); (case zkdz => ktr_room); (case zkuz => ktr_units); (case zhiz => assumption); (case zhnz => omega)); (refine And.intro (by assumption) ?_; intro zD9z za9z zb9z zta9z ztb9z zh9z ztk9z zha9z zhb9z hb9' F9 N9 l9; (have zl8z := PySem.W.allLt_of l9); (simp only [PySem.W.AllLt] at zl8z)); (try dsimp only); (try k_fold); (try k_sweep)) | ((with_reducible show wpAny _ _ (PySem.call (Value.ref 123) [Value.int _ _, Value.int _ _, Value.int _ _, Value.int _ _]) _ _ _); k_dflt (refine' lguess_call _ _ _ _ _ _ _ _ _ _ ?zh0z ?zh1z _ _ _ _ _ _ _ _ _ _ _ _ _ _ _ _ _ _ _ _ ?zkBz ?zkFz ?zkXz ?zkNz ?zkTz ?zkkz ?zkdz ?zkuz ?_; (case zkBz => k_asm); (case zkFz => k_asm); (case zkXz => k_asm); (case zkNz => k_asm); (case zkTz => k_asm); (case zkkz => first | exact rfl | assumption); (case zkdz => ktr_room); (case zkuz => ktr_units); (case zh0z => first | assumption | omega); (case zh1z => first | assumption | omega)); intro zt9z zh9z ztk9z zF9z zN9z; (try dsimp only); (try k_fold); (try k_sweep)) | ((with_reducible show wpAny _ _ (PySem.call (Value.ref 64) [Value.int _ _, Value.int _ _, Value.int _ _, Value.int _ _]) _ _ _); k_dflt (refine' guess_call _ _ _ _ _ _ _ _ _ _ ?zh0z ?zh1z _ _ _ _ _ _ _ _ _ _ _ _ _ _ _ _ _ _ _ _ ?zkBz ?zkFz ?zkXz ?zkNz ?zkTz ?zkkz ?zkdz ?zkuz ?_; (case zkBz => k_asm); (case zkFz => k_asm); (case zkXz => k_asm); (case zkNz => k_asm); (case zkTz => k_asm); (case zkkz => first | exact rfl | assumption); (case zkdz => ktr_room); (case zkuz => ktr_units); (case zh0z => first | assumption | omega); (case zh1z => first | assumption | omega)); intro zt9z zh9z ztk9z zF9z zN9z; (try dsimp only); (try k_fold); (try k_sweep)) | ((with_reducible show wpAny _ _ (PySem.call (Value.ref 116) [Value.int _ _, Value.int _ _, Value.int _ _]) _ _ _); k_dflt (refine' lnear_call _ _ _ _ _ _ _ _ _ _ _ _ _ _ _ _ _ _ _ _ _ _ _ _ _ _ _ _ ?zkBz ?zkFz ?zkXz ?zkNz ?zkTz ?zkkz ?zkdz ?zkuz ?_; (case zkBz => k_asm); (case zkFz => k_asm); (case zkXz => k_asm); (case zkNz => k_asm); (case zkTz => k_asm); (case zkkz => first | exact rfl | assumption); (case zkdz => ktr_room); (case zkuz => ktr_units)); intro zt9z zh9z ztk9z zF9z zN9z; (try dsimp only); (try k_fold); (try k_sweep)) | ((with_reducible show wpAny _ _ (PySem.call (Value.ref 57) [Value.int _ _, Value.int _ _, Value.int _ _]) _ _ _); k_dflt (refine' nearest_call _ _ _ _ _ _ _ _ _ _ _ _ _ _ _ _ _ _ _ _ _ _ _ _ _ _ _ _ ?zkBz ?zkFz ?zkXz ?zkNz ?zkTz ?zkkz ?zkdz ?zkuz ?_; (case zkBz => k_asm); (case zkFz => k_asm); (case zkXz => k_asm); (case zkNz => k_asm); (case zkTz => k_asm); (case zkkz => first | exact rfl | assumption); (case zkdz => ktr_room); (case zkuz => ktr_units)); intro zt9z zh9z ztk9z zF9z zN9z; (try dsimp only); (try k_fold); (try k_sweep)) | ((with_reducible show wpAny _ _ (PySem.call (Value.ref 130) [Value.ref _]) _ _ _); k_dflt (refine' octet_call _ _ _ _ _ _ _ _ _ ?zUz ?zh0z ?zhb0z ?zhbz _ _ _ _ _ _ _ _ _ _ _ _ _ _ _ _ _ _ _ _ ?zkBz ?zkFz ?zkXz ?zkNz ?zkTz ?zkkz ?zkdz ?zkuz ?_; (case zkBz => k_asm); (case zkFz => k_asm); (case zkXz => k_asm); (case zkNz => k_asm); (case zkTz => k_asm); (case zkkz => first | exact rfl | assumption); (case zkdz => ktr_room); (case zkuz => ktr_units); (case zUz => k_updF); (case zh0z => assumption); (case zhb0z => assumption); (case zhbz => assumption)); intro zr9z zt9z zh9z ztk9z za9z zb9z zta9z ztb9z zhr0z zhr1z zha0z zhb0z zhb1z zF9z zN9z; (try dsimp only at zN9z); (try dsimp only); (try k_fold); (try k_sweep))); (try k_steps))))
    refine callWithN_K (K := hd.heap_39 w.params) (by k_is) ?_
    (k_steps; repeat (any_goals ((refine unheld ?_; first | ((with_reducible show wpAny _ _ (PySem.call (Value.ref 149) [Value.int _ _]) _ _ _); k_dflt (refine' refused1_call _ _ _ _ _ _ _ _ _ _ _ _ _ _ _ _ _ _ _ _ _ ?zkBz ?zkFz ?zkXz ?zkNz ?zkTz ?zkkz ?zkdz ?zkuz ?_; (case zkBz => k_asm); (case zkFz => k_asm); (case zkXz => k_asm); (case zkNz => k_asm); (case zkTz => k_asm); (case zkkz => first | exact rfl | assumption); (case zkdz => ktr_room); (case zkuz => ktr_units)); intro zh9z ztk9z zF9z zN9z; (try dsimp only); (try k_fold); (try k_sweep)) | ((with_reducible show wpAny _ _ (PySem.call (Value.ref 149) [Value.int _ _]) _ _ _); k_dflt (refine' refused5_call _ _ _ _ _ _ _ _ _ _ _ _ _ _ _ _ _ _ _ _ _ ?zkBz ?zkFz ?zkXz ?zkNz ?zkTz ?zkkz ?zkdz ?zkuz ?_; (case zkBz => k_asm); (case zkFz => k_asm); (case zkXz => k_asm); (case zkNz => k_asm); (case zkTz => k_asm); (case zkkz => first | exact rfl | assumption); (case zkdz => ktr_room); (case zkuz => ktr_units)); intro zh9z ztk9z zF9z zN9z; (try dsimp only); (try k_fold); (try k_sweep)) | ((with_reducible show wpAny _ _ (PySem.call (Value.ref 97) [Value.ref _, Value.int _ _]) _ _ _); k_dflt (refine' pool_call _ _ _ _ _ _ ?zhnz ?zhiz _ _ _ _ _ _ _ _ _ _ _ _ _ _ _ _ _ _ _ _ ?zkBz ?zkFz ?zkXz ?zkNz ?zkTz ?zkkz ?zkdz ?zkuz ?_; (case zkBz => k_asm); (case zkFz => k_asm); (case zkXz => k_asm); (case zkNz => k_asm); (case zkTz => k_asm); (case zkkz => first | exact rfl | assumption); (case zkdz => ktr_room); (case zkuz => ktr_units); (case zhiz => assumption); (case zhnz => omega)); (refine And.intro (by assumption) ?_; intro zD9z za9z zb9z zta9z ztb9z zh9z ztk9z zha9z zhb9z hb9' F9 N9 l9; (have zl8z := PySem.W.allLt_of l9); (simp only [PySem.W.AllLt] at zl8z)); (try dsimp only); (try k_fold); (try k_sweep)) | ((with_reducible show wpAny _ _ (PySem.call (Value.ref 123) [Value.int _ _, Value.int _ _, Value.int _ _, Value.int _ _]) _ _ _); k_dflt (refine' lguess_call _ _ _ _ _ _ _ _ _ _ ?zh0z ?zh1z _ _ _ _ _ _ _ _ _ _ _ _ _ _ _ _ _ _ _ _ ?zkBz ?zkFz ?zkXz ?zkNz ?zkTz ?zkkz ?zkdz ?zkuz ?_; (case zkBz => k_asm); (case zkFz => k_asm); (case zkXz => k_asm); (case zkNz => k_asm); (case zkTz => k_asm); (case zkkz => first | exact rfl | assumption); (case zkdz => ktr_room); (case zkuz => ktr_units); (case zh0z => first | assumption | omega); (case zh1z => first | assumption | omega)); intro zt9z zh9z ztk9z zF9z zN9z; (try dsimp only); (try k_fold); (try k_sweep)) | ((with_reducible show wpAny _ _ (PySem.call (Value.ref 64) [Value.int _ _, Value.int _ _, Value.int _ _, Value.int _ _]) _ _ _); k_dflt (refine' guess_call _ _ _ _ _ _ _ _ _ _ ?zh0z ?zh1z _ _ _ _ _ _ _ _ _ _ _ _ _ _ _ _ _ _ _ _ ?zkBz ?zkFz ?zkXz ?zkNz ?zkTz ?zkkz ?zkdz ?zkuz ?_; (case zkBz => k_asm); (case zkFz => k_asm); (case zkXz => k_asm); (case zkNz => k_asm); (case zkTz => k_asm); (case zkkz => first | exact rfl | assumption); (case zkdz => ktr_room); (case zkuz => ktr_units); (case zh0z => first | assumption | omega); (case zh1z => first | assumption | omega)); intro zt9z zh9z ztk9z zF9z zN9z; (try dsimp only); (try k_fold); (try k_sweep)) | ((with_reducible show wpAny _ _ (PySem.call (Value.ref 116) [Value.int _ _, Value.int _ _, Value.int _ _]) _ _ _); k_dflt (refine' lnear_call _ _ _ _ _ _ _ _ _ _ _ _ _ _ _ _ _ _ _ _ _ _ _ _ _ _ _ _ ?zkBz ?zkFz ?zkXz ?zkNz ?zkTz ?zkkz ?zkdz ?zkuz ?_; (case zkBz => k_asm); (case zkFz => k_asm); (case zkXz => k_asm); (case zkNz => k_asm); (case zkTz => k_asm); (case zkkz => first | exact rfl | assumption); (case zkdz => ktr_room); (case zkuz => ktr_units)); intro zt9z zh9z ztk9z zF9z zN9z; (try dsimp only); (try k_fold); (try k_sweep)) | ((with_reducible show wpAny _ _ (PySem.call (Value.ref 57) [Value.int _ _, Value.int _ _, Value.int _ _]) _ _ _); k_dflt (refine' nearest_call _ _ _ _ _ _ _ _ _ _ _ _ _ _ _ _ _ _ _ _ _ _ _ _ _ _ _ _ ?zkBz ?zkFz ?zkXz ?zkNz ?zkTz ?zkkz ?zkdz ?zkuz ?_; (case zkBz => k_asm); (case zkFz => k_asm); (case zkXz => k_asm); (case zkNz => k_asm); (case zkTz => k_asm); (case zkkz => first | exact rfl | assumption); (case zkdz => ktr_room); (case zkuz => ktr_units)); intro zt9z zh9z ztk9z zF9z zN9z; (try dsimp only); (try k_fold); (try k_sweep)) | ((with_reducible show wpAny _ _ (PySem.call (Value.ref 130) [Value.ref _]) _ _ _); k_dflt (refine' octet_call _ _ _ _ _ _ _ _ _ ?zUz ?zh0z ?zhb0z ?zhbz _ _ _ _ _ _ _ _ _ _ _ _ _ _ _ _ _ _ _ _ ?zkBz ?zkFz ?zkXz ?zkNz ?zkTz ?zkkz ?zkdz ?zkuz ?_; (case zkBz => k_asm); (case zkFz => k_asm); (case zkXz => k_asm); (case zkNz => k_asm); (case zkTz => k_asm); (case zkkz => first | exact rfl | assumption); (case zkdz => ktr_room); (case zkuz => ktr_units); (case zUz => k_updF); (case zh0z => assumption); (case zhb0z => assumption); (case zhbz => assumption)); intro zr9z zt9z zh9z ztk9z za9z zb9z zta9z ztb9z zhr0z zhr1z zha0z zhb0z zhb1z zF9z zN9z; (try dsimp only at zN9z); (try dsimp only); (try k_fold); (try k_sweep))); (try k_steps))))
    (k_dflt (refine' rows_callN _ _ _ _ _ _ _ _ ?rne ?rh0 ?rhb0 ?rhb _ _ _ _ _ _ _ _ _ _ _ _ _ _ _ _ _ _ _ _ ?kB ?kF ?kX ?kN ?kT ?kk ?kd ?ku ?_; (case kB => k_asm); (case kF => k_asm); (case kX => k_asm); (case kN => k_asm); (case kT => k_asm); (case kk => first | exact rfl | assumption); (case kd => ktr_room); (case ku => ktr_units); (case rne => (intro p hp; simp only [List.mem_cons, List.not_mem_nil, or_false] at hp; rcases hp with rfl | rfl | rfl | rfl <;> (show @Ne Nat _ _) <;> first | assumption | exact Ne.symm (by assumption) | omega)); (case rh0 => assumption); (case rhb0 => assumption); (case rhb => assumption)); intro h9 tk9 F9; (try dsimp only); (try k_fold); (try k_sweep))
    refine goodW_bool (by assumption) (by assumption) (raisesW_false ?_) ?_
    · wrow_none_raised
    · wrow_post)
end
end Mine
end
theorem PySem.Challenge.cw_pf0182_01_holds : PySem.Challenge.rw_pf0182_01.Holds :=
  Mine.law_holds
