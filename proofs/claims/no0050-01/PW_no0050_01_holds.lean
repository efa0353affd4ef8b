import PyProof.Rows.All
import Wide.All
import OpenK.AllK
import Wide.FinOn
import KE.BytesMake
import KE.BitLaws
import Lean
import PySem.Challenge.RW_no0050_01
set_option Elab.async false
set_option maxRecDepth 100000
set_option rowWalk.seconds 0
section
open PySem PySem.W PyProof.Rows
open Sem (wp)
set_option Elab.async false
set_option maxRecDepth 100000
namespace Mine
def dec : Code → Bool
  | .builtin id _ => Builtin.Bytes.decodersThatHold.contains id
  | _ => false
def Clean (Γ : Ctx) : Prop := dec Γ.code = false ∧ ∀ x ∈ Γ.below, dec x.1 = false
theorem Clean.enter {Γ : Ctx} (h : Clean Γ) {c : Code} (hd : Option Value) (p : Pos) (hc : dec c = false) : Clean (Γ.enter c hd p) :=
  ⟨hc, fun x m => by
    rcases List.mem_cons.mp m with rfl | m
    · exact h.1
    · exact h.2 x m⟩
def wpC {α : Type} (M : Model) (A : Around) (t : Sem α) (Q : α → Shared → Prop) (E : Value → Shared → Prop) (s : Shared) : Prop :=
  ∀ Γ p, Γ.In A → Clean Γ → wp M Γ t (fun a _ s' => Q a s') (fun e _ s' => E e s') p s
def codeC (M : Model) (A : Around) (c : Code) (R : Result → Shared → Prop) (s : Shared) : Prop :=
  ∀ Γ p, Γ.code = c → Γ.Below A → Clean Γ → wpCode M Γ R p s
abbrev Nev : Value → Shared → Prop := fun _ _ => False
section
variable {α β : Type} {M : Model} {A : Around} {E : Value → Shared → Prop} {s : Shared}
theorem wpC_of {t : Sem α} {Q : α → Shared → Prop} (h : wpAny M A t Q E s) : wpC M A t Q E s := fun Γ p i _ => h Γ p i
theorem codeC_of {c : Code} {R : Result → Shared → Prop} (h : codeAny M A c R s) : codeC M A c R s := fun Γ p e b _ => h Γ p e b
theorem wpC_mono {t : Sem α} {Q Q' : α → Shared → Prop} {E' : Value → Shared → Prop} (h : wpC M A t Q E s) (hQ : ∀ a s, Q a s → Q' a s) (hE : ∀ e s, E e s → E' e s) : wpC M A t Q' E' s :=
  fun Γ p i k => Sem.wp_mono M Γ t (fun a _ s => hQ a s) (fun e _ s => hE e s) p s (h Γ p i k)
theorem wpC_never {t : Sem α} {Q : α → Shared → Prop} (h : wpC M A t Q Nev s) : wpC M A t Q E s := wpC_mono h (fun _ _ x => x) fun _ _ x => x.elim
theorem wpC_pure {a : α} {Q : α → Shared → Prop} (h : Q a s) : wpC M A (pure a) Q E s := fun _ _ _ _ => h
theorem wpC_bind {m : Sem α} {f : α → Sem β} {Q : β → Shared → Prop} (h : wpC M A m (fun a s' => wpC M A (f a) Q E s') E s) : wpC M A (m >>= f) Q E s := fun Γ p i k => by
  rw [Sem.wp_bind']
  exact Sem.wp_mono M Γ m (fun a p' s' h' => h' Γ p' i k) (fun _ _ _ h' => h') p s (h Γ p i k)
theorem wpC_step {m : Sem α} {f : α → Sem β} {Q : β → Shared → Prop} (h : wpAny M A m (fun a s' => wpC M A (f a) Q E s') E s) : wpC M A (m >>= f) Q E s := wpC_bind (wpC_of h)
theorem wpC_onRaise {m : Sem α} {k : Value → Sem Unit} {Q : α → Shared → Prop} (h : wpC M A m Q Nev s) : wpC M A (m.onRaise k) Q E s := fun Γ p i c => by
  rw [Sem.wp_onRaise]
  exact Sem.wp_mono M Γ m (fun _ _ _ x => x) (fun _ _ _ x => x.elim) p s (h Γ p i c)
theorem wpC_holding {vs : List Value} {m : Sem α} {Q : α → Shared → Prop} (h : wpC M A m Q E s) : wpC M A (holding vs m) Q E s := fun Γ p i c => by
  rw [Sem.wp_holding]
  exact h Γ p i c
theorem wpC_keep {vs : List Value} {m : Sem α} {Q : α → Shared → Prop} (h : wpC M A m Q E s) : wpC M A (m.keep vs) Q E s := fun Γ p i c => by
  rw [Sem.wp_keep]
  exact h Γ p i c
theorem wpC_run {c : Code} {hd : Option Value} {Q : Flow → Shared → Prop} (h : codeC M (A.mark hd) c (fun r s' => match r with | .ok f => Q f s' | .error e => E e s') s) (hc : dec c = false := by rfl) (hnb : hd ≠ some byPass := by intro x; cases x) :
    wpC M A (run c hd) Q E s := fun Γ p i k => by
  rw [Sem.wp_run]
  exact h _ p rfl (i.enter c hd p hnb) (k.enter hd p hc)
theorem wpC_runValue {c : Code} {Q : Value → Shared → Prop} (h : codeC M A c (fun r s' => match r with | .ok (.ret v) => Q v s' | .ok _ => False | .error e => E e s') s) (hc : dec c = false := by rfl) :
    wpC M A (runValue c) Q E s := fun Γ p i k => by
  rw [Sem.wp_runValue]
  exact h _ p rfl (i.enter c none p (by intro x; cases x)) (k.enter none p hc)
theorem wpC_call {f : Value} {pos : List Value} {kw : List (Str × Value)} {Q : Value → Shared → Prop} (h : codeC M A (.call f ⟨pos, kw⟩) (fun r s' => match r with | .ok (.ret v) => Q v s' | .ok _ => False | .error e => E e s') s) :
    wpC M A (call f pos kw) Q E s := wpC_runValue h
theorem codeC_tree {c : Code} {R : Result → Shared → Prop} (h : wpC M (A.under c) (M.den c) (fun fin s' => match fin with | .done f => R (.ok f) s' | .again c' => c'.quiet = true ∧ dec c' = false ∧ codeC M A c' R s') (fun e s' => R (.error e) s') s) :
    codeC M A c R s := fun Γ p e b k => by
  rw [wpCode_iff_wp, e]
  refine Sem.wp_mono M Γ _ (fun fin p' s' h' => ?_) (fun _ _ _ h' => h') p s (h Γ p (e ▸ b.in) k)
  cases fin with
  | done f => exact h'
  | again c' => exact ⟨h'.1, h'.2.2 (Γ.goto c') p' rfl (b.goto c') ⟨h'.2.1, k.2⟩⟩
theorem codeC_mono {c : Code} {R R' : Result → Shared → Prop} (h : codeC M A c R s) (hR : ∀ r s, R r s → R' r s) : codeC M A c R' s := fun Γ p e b k => wpCode_mono hR (h Γ p e b k)

theorem wpC_exported {x : Addr} {Q : Bool → Shared → Prop} (hg : A.guards = some []) (h : Q false s) : wpC M A (Builtin.Bytes.exported (.ref x)) Q E s := fun Γ p i k => by
  have key : ∀ f : Code × Pos → Bool, (∀ c p, dec c = false → c.isGuard = false → f (c, p) = false) → ((Γ.code, p) :: Γ.below).any f = false := fun f hf => by
    rw [List.any_eq_false]
    intro y hy
    have hy1 : dec y.1 = false := by
      rcases List.mem_cons.mp hy with rfl | m
      · exact k.1
      · exact k.2 y m
    have hy2 : y.1.isGuard = false := by
      have e := i.2.2.2.1 [] hg
      rw [← guardsOf_cons Γ.code p] at e
      cases q : y.1.isGuard with
      | false => rfl
      | true =>
        have m : y.1 ∈ guardsOf ((Γ.code, p) :: Γ.below) := List.mem_filter.mpr ⟨List.mem_map.mpr ⟨y, hy, rfl⟩, q⟩
        rw [e] at m
        cases m
    rw [hf y.1 y.2 hy1 hy2]
    exact Bool.false_ne_true
  unfold Builtin.Bytes.exported
  rw [Sem.wp_bind']
  show wp M Γ stack _ _ p s
  unfold stack
  rw [Sem.wp_stack]
  show wp M Γ (pure _) _ _ p s
  rw [Sem.wp_pure']
  refine (congrArg (fun b => Q b s) (key _ fun c p hd hg => ?_)).mpr h
  split
  · rename_i e; cases e; cases hg
  · rename_i e; cases e; cases hg
  · rename_i e; cases e; cases hg
  · rename_i e; cases e; cases hg
  · rename_i e; cases e; cases hg
  · rename_i e
    cases e
    show (_ && _) = false
    rw [show Builtin.Bytes.decodersThatHold.contains _ = false from hd, Bool.and_false]
  · rfl
end
end Mine
end

section
open PySem PySem.W PyProof.Rows PySem.Spec PySem.Calls
open Sem (wp)
set_option Elab.async false
set_option maxRecDepth 100000
set_option maxHeartbeats 40000000
namespace Mine
/-- the stack asked first: clean, the tree itself; not clean, another that answers at once -/
def clear (st : List (Code × Pos)) : Bool := st.all fun x => !dec x.1
def askFirst {α : Type} (t u : Sem α) : Sem α := .stack fun st => if clear st then t else u
theorem ask_any {α : Type} {M : Model} {A : Around} {E : Value → Shared → Prop} {s : Shared} {t u : Sem α} {Q : α → Shared → Prop} (ht : wpC M A t Q E s) (hu : wpAny M A u Q E s) : wpAny M A (askFirst t u) Q E s := fun Γ p i => by
  unfold askFirst
  rw [Sem.wp_stack]
  by_cases h : clear ((Γ.code, p) :: Γ.below) = true
  · rw [if_pos h]
    refine ht Γ p i ?_
    unfold clear at h
    rw [List.all_eq_true] at h
    exact ⟨by simpa using h _ (.head _), fun x m => by simpa using h _ (.tail _ m)⟩
  · rw [if_neg h]
    exact hu Γ p i
theorem any_ask {α : Type} {M : Model} {A : Around} {E : Value → Shared → Prop} {s : Shared} {t u : Sem α} {Q : α → Shared → Prop} (h : wpAny M A (askFirst t u) Q E s) : wpC M A t Q E s := fun Γ p i k => by
  have h1 := h Γ p i
  unfold askFirst at h1
  rw [Sem.wp_stack, if_pos] at h1
  · exact h1
  · unfold clear
    rw [List.all_eq_true]
    intro x m
    rcases List.mem_cons.mp m with rfl | m
    · simpa using k.1
    · simpa using k.2 x m
theorem any_else {α : Type} {M : Model} {A : Around} {E : Value → Shared → Prop} {s : Shared} {t u : Sem α} {Q : α → Shared → Prop} (h : wpAny M A (askFirst t u) Q E s) :
    ∀ Γ p, Γ.In A → clear ((Γ.code, p) :: Γ.below) = false → wp M Γ u (fun a _ s' => Q a s') (fun e _ s' => E e s') p s := fun Γ p i k => by
  have h1 := h Γ p i
  unfold askFirst at h1
  rw [Sem.wp_stack, k] at h1
  exact h1

abbrev stubOf (t : Sem Fin) : Thread := ⟨t, .builtin "claim.caller" {}, default, []⟩
theorem first_step {prog : Program} {w : World} {s : Shared} {t u : Sem Fin} (hs : s.asleep) : sstep (denote table) prog w (.single s (stubOf (askFirst t u))) = .go (.single s (stubOf t)) := by
  have e : step (denote table) prog w s (stubOf (askFirst t u)) = .go s (stubOf t) := by
    show Step.go s _ = _
    have c : clear [((.builtin "claim.caller" {} : Code), (default : Pos))] = true := by decide +kernel
    show Step.go s ⟨if clear [((.builtin "claim.caller" {} : Code), (default : Pos))] = true then t else u, .builtin "claim.caller" {}, default, []⟩ = _
    rw [if_pos c]
  rcases sstep_single (denote table) prog w s (stubOf (askFirst t u)) rfl hs with h | h
  · rw [h, e]
    rfl
  · rw [e] at h
    cases h
theorem run_swap {prog : Program} {w : World} {s s' : Shared} {t u : Sem Fin} {n : Nat} {o : Outcome} (hs : s.asleep) (h : schedN (denote table) prog w n (.single s (stubOf (askFirst t u))) = .halted o s') :
    ∃ m, schedN (denote table) prog w m (.single s (stubOf t)) = .halted o s' := by
  cases n with
  | zero => cases h
  | succ n =>
    refine ⟨n, ?_⟩
    rw [schedN, first_step hs] at h
    exact h
theorem call_swap {t u : List Value → Sem Fin} {c : ClaimW} {w : World} {free : Addr → Prop} {gens : Prop} {kept : Heap → Prop} {s : Shared} (hs : s.asleep)
    (h : c.CallFrom (fun vs => stubOf (askFirst (t vs) (u vs))) w free gens kept s) : c.CallFrom (fun vs => stubOf (t vs)) w free gens kept s := by
  intro args hpre hlay ord hord
  obtain ⟨vs, s₁, hl, n, o, s', hn, rest⟩ := h args hpre hlay ord hord
  have hal := layAllW_rest _ _ _ hl
  obtain ⟨m, hm⟩ := run_swap (Shared.asleep_of_life hal.2.2.2 hs) hn
  exact ⟨vs, s₁, hl, m, o, s', hm, rest⟩
theorem open_swap {t u : List Value → Sem Fin} {c : ClaimW} {defs keeps : List Str} {writes : Bool} (h : c.HoldsOpenBy (fun vs => stubOf (askFirst (t vs) (u vs))) defs keeps writes)
    (hz : ∀ (w : World) s s₀, AfterRun (opening c.prog) w s → fenceModules? c.prog s = some s₀ → s₀.asleep) : c.HoldsOpenBy (fun vs => stubOf (t vs)) defs keeps writes := by
  obtain ⟨h1, h2, h3⟩ := h
  refine ⟨h1, h2, fun w => ⟨(h3 w).1, fun s hs => ?_⟩⟩
  obtain ⟨s₀, a, b, s₁, hT, d, e, f, g⟩ := (h3 w).2 s hs
  exact ⟨s₀, a, b, s₁, hT, d, e, f, call_swap (Shared.asleep_of_life hT.2.1 (hz w s s₀ hs a)) g⟩
end Mine
end

section
open PySem PySem.W PyProof.Rows PySem.Spec PySem.Calls
open Sem (wp)
set_option Elab.async false
set_option maxRecDepth 100000
set_option maxHeartbeats 40000000
namespace Mine
abbrev WalkC (q : Program) (loose : List Str) (XP : (Str → Option Value) → Heap → Prop) (YP : World → Heap → Prop) (r : RowW) (d : DefRec) (kwd : List (Str × Expr)) : Prop :=
  ∀ (w : World) (s₀ s₁ : Shared) (mg mb : Str → Option Value), Ground q loose r.records XP w s₀ mg mb s₁.heap → YP w s₁.heap → ∀ (a : Addr) (o : Obj) (pm cd doc dV kV : Value), s₁.heap.get? a = some o →
    o.data = .func { docDef d.name d.params d.body d.scope pm cd doc with defaults := dV, kwdefaults := kV } → s₁.heap.CodeRec cd d.name → Dflts mg s₁.heap d.params kwd dV kV → mg d.name = some (.ref a) → s₁.gens = #[] →
    ∀ (args : List WData) (vals : List Value) (as : List Addr), r.claim.pre args = true → WData.layableAll args = true → ReadsAllW r.records (classAt s₀.heap) s₁.heap vals args as → WellAll w.params s₁.heap vals args → (∀ a ∈ as, (a == sysModules) = false) →
      wpAny (model r.prog w) callerA (askFirst (PySem.call (.ref a) vals) (pure (.bool true))) (fun v s' => GoodWG r.claim (classAt s₀.heap) (ExcName.means s₀.heap) args s₁ (.ok (.ret v)) s')
        (fun e s' => GoodWG r.claim (classAt s₀.heap) (ExcName.means s₀.heap) args s₁ (.error e) s') s₁
theorem tree_ask {M : Model} {A : Around} {s : Shared} {name : Str} {mg : Str → Option Value} {f : Value} {vs : List Value} {Q : Fin → Shared → Prop} {E : Value → Shared → Prop} (hg : s.heap.Ns mainGlobals mg) (hf : mg name = some f)
    (h : wpAny M A (askFirst (PySem.call f vs) (pure (.bool true))) (fun v s' => Q (.done (.ret v)) s') E s) :
    wpAny M A (askFirst (do match ← nsGet mainNs name with
      | some f => do ret (← PySem.call f vs)
      | none => unsupported "claim.caller:no-such-global") (pure (.done (.ret (.bool true))))) Q E s := fun Γ p i => by
  have h1 := any_ask h
  have h2 := any_else h
  unfold askFirst
  rw [Sem.wp_stack]
  by_cases c : clear ((Γ.code, p) :: Γ.below) = true
  · rw [if_pos c]
    have k : Clean Γ := by
      unfold clear at c
      rw [List.all_eq_true] at c
      exact ⟨by simpa using c _ (.head _), fun x m => by simpa using c _ (.tail _ m)⟩
    have h3 : wpC M A (do match ← nsGet mainNs name with
      | some f => do ret (← PySem.call f vs)
      | none => unsupported "claim.caller:no-such-global") Q E s :=
      wpC_step (wpAny_nsGet hg (by rw [hf]; exact wpC_bind (wpC_mono h1 (fun _ _ x => wpC_pure x) fun _ _ x => x)))
    exact h3 Γ p i k
  · rw [if_neg c]
    exact h2 Γ p i (by simpa using c)
theorem PySem.W.holds_open {r : OpenRow} {q : Program} {loose : List Str} {Xt : Shared → Bool} {XP : (Str → Option Value) → Heap → Prop} {α : Type} {Yf : Shared → α} {Ya : World → α} {YP : World → Heap → Prop} {d : DefRec} {kwd : List (Str × Expr)} {N : Nat}
    (left : LeftO r.prog q loose Xt Yf Ya N) (hY : ∀ w s, Yf s = Ya w → YP w s.heap) (hYk : ∀ w h h', YP w h → (∀ b o, h.get? b = some o → h'.get? b = some o) → YP w h')
    (hX : ∀ s, Xt s = true → XP (s.heap.nsMap mainGlobals) s.heap) (hXk : ∀ mg h h', XP mg h → (∀ b o, h.get? b = some o → h'.get? b = some o) → XP mg h')
    (hdef : defOf q r.name = some (d, kwd)) (hp : r.prog.theDef r.name = some (d.params, d.body, d.scope)) (hk : kwWritten? d.params.kwonlyargs d.params.kw_defaults = some kwd) (hRf : ∀ s, Xt s = true → RecFacts r.records s.heap) (hwr : (!r.writes || r.records.isEmpty) = true)
    (k1 : r.wellSaid = true) (ok : (chainsOk q && opensWell r.prog && (frees r.toRowW && r.within.isEmpty)) = true) (hb : r.prog.bare) (hw : r.toRowW.promised)
    (call : WalkC q loose XP YP r.toRowW d kwd) : r.Holds := by
  refine ⟨k1, hw, open_swap (u := fun _ => pure (.done (.ret (.bool true)))) (open_anyG (r := r.toRowW) (run := fun f vs => askFirst (PySem.call f vs) (pure (.bool true))) (tree := fun vs => askFirst (do match ← nsGet mainNs r.name with
      | some f => do ret (← PySem.call f vs)
      | none => unsupported "claim.caller:no-such-global") (pure (.done (.ret (.bool true))))) left hY hYk hX hXk hRf hwr ok hb hw
    (fun vs w s mg f Q E hg hf h => tree_ask hg hf h)
    (fun w s hg G n hn => ?_) fun w s₀ s₁ mg mb G Y args vs as hpre hlay L low => ?_) fun w s s₀ hs hf => Shared.asleep_of_life (fence_lifeW hf) (AfterImport.life hs)⟩
  · obtain rfl : n = r.name := by split at hn <;> simp_all
    exact pinned_of_view hg G hdef hp hk
  · obtain ⟨a, o, pm, cd, doc, dV, kV, h1, h2, h3, h4, h5⟩ := G.fn hdef
    exact ⟨.ref a, h1, call w s₀ s₁ mg mb G Y a o pm cd doc dV kV h2 h3 h4 h5 (defOf_name hdef ▸ h1) L.gens args vs as hpre hlay L.reads L.well (L.low low)⟩
end Mine
end

section
open PySem PySem.W PyProof.Rows
set_option Elab.async false
set_option maxRecDepth 100000
set_option maxHeartbeats 40000000
namespace Mine
open_top hd for PySem.Challenge.rw_no0050_01
end Mine
end

section
open PySem PySem.W PyProof.Rows PySem.Spec PySem.Calls
set_option Elab.async false
set_option maxRecDepth 100000
set_option maxHeartbeats 40000000
namespace Mine
abbrev TT (mean : ExcName → Option Value) (mg mb : Str → Option Value) (h : Heap) : Prop := Top hd.view_39 (looseW hd.view_39 [Str.ofString "GREATEST"]) mean mg mb h
abbrev MM (w : World) : Model := model (RowW.prog (OpenRow.toRowW (OpenLaw.row Challenge.rw_no0050_01))) w
end Mine
end

section
open PySem PySem.W PyProof.Rows PySem.Spec PySem.Calls
set_option Elab.async false
set_option maxRecDepth 100000
set_option maxHeartbeats 40000000
namespace Mine
abbrev bmE : List Value := [.type "Exception", .type "BaseException", .type "object"]
abbrev excObj (C t : Addr) : Obj := { cls := .ref C, data := .fields #[.ref t, .none, .none, .none, .bool false, .none] }
abbrev tupObj (vs : List Value) : Obj := { cls := .type "tuple", data := .seq vs.toArray }

section
variable {prog : Program} {w : World} {A : Around} {K : Frag} {C : Addr} {R : Result → Shared → Prop} {h : Heap} {g : Array GenState} {d : Drawn} {t : Nat} {os : OsState}
variable {nm q : Str} {N : Addr} {bs : List Value} {hdct : Bool} {sn : List Str} {sub : List Value} {ab : Bool} {col : Option Bool} {dd : Option Addr} {k0 k1 k2 k3 k5 : Option Value}

theorem exc_core {rest : List Value} {fI : Addr} (X : K.In h)
    (hCK : K.lookup C = some (excClassObj nm q C N bs bmE hdct sn sub ab col dd k0 k1 k2 k3 k5 "Exception.__new__"))
    (hcall : specialIn K (.ref C) "__call__" = some (some (.builtin "type.__call__"))) (htyp : instIn K (.ref C) (.type "type") = some true)
    (hi : findIn K (.ref C) "__init__" = some (some (.ref fI))) (hf : typeIn K (.ref fI) = some (.type "function")) (hrest : rest.length ≤ sizeLine)
    (hq : codeAny (model prog w) (A.under (.builtin "type.__call__" ⟨.ref C :: rest, []⟩)) (.call (.ref fI) ⟨.ref (h.objs.size + 1) :: rest, []⟩) (InitBack (h.objs.size + 1) R)
      ⟨(h.push (tupObj rest)).push (excObj C h.objs.size), g, d, t, os⟩) :
    codeAny (model prog w) A (.call (.ref C) ⟨rest, []⟩) R ⟨h, g, d, t, os⟩ := by
  have F := PySem.F.excBase_Exception
  have hC := X _ _ hCK
  have call := looks_specialIn (M := model prog w) X hcall
  have typ := looks_instIn (M := model prog w) X htyp
  have hil := looks_findIn (M := model prog w) X hi
  have mro : Looks (model prog w) h (mroOf (.ref C)) (.ref C :: bmE) := fun A Q E s k z => by
    obtain ⟨hh, g, d, t, os⟩ := s
    exact wpAny_mroOf_exc (k _ _ hC) z
  have made : Looks (model prog w) h (Bind.madeBy (.ref C)) (some "Exception.__new__") := fun A Q E s k z => by
    obtain ⟨hh, g, d, t, os⟩ := s
    exact wpAny_madeBy_exc (k _ _ hC) z
  have self : Looks (model prog w) h (isSubtype (.ref C) (.ref C)) true := fun A Q E s k z => by
    obtain ⟨hh, g, d, t, os⟩ := s
    refine wpAny_isSubtype_exc (k _ _ hC) ?_
    rw [show (Value.ref C :: bmE).contains (.ref C) = true by simp]
    exact z
  refine codeAny_of_tree ?_
  show wpAny _ _ (callAny (.ref C) _) _ _ _
  refine nd_load hC ?_
  show wpAny _ _ (callAny.viaDunder (.ref C) _) _ _ _
  unfold callAny.viaDunder
  refine wpAny_bind (call.at ?_)
  dsimp only
  rw [PySem.tc_bind]
  refine wpAny_bind (wpAny_pure (wpAny_bind (wpAny_pure ?_)))
  refine wpAny_pure (a := Fin.again (.call (.builtin "type.__call__") ⟨.ref C :: rest, []⟩)) (And.intro rfl ?_)
  refine codeAny_call_builtin_at (Code.quiet_builtin _ (by decide +kernel)) entry_typeCall (check_slot PySem.tc_kind PySem.tc_split typ (tc_args _ _ _) ?_)
  unfold Builtin.«type.__call__»
  repeat (first | with_reducible refine wpAny_call ?_ | lk)
  refine codeAny_call_builtin_code (Code.quiet_builtin _ F.quiet) (wpAny_check_new_sub F hC ?_)
  refine codeAny_exc_new_sub F hC ?_ hrest
  have k : ∀ b o, h.get? b = some o → ((h.push (tupObj rest)).push (excObj C h.objs.size)).get? b = some o := fun b o e => Heap.get?_push_of_some _ (Heap.get?_push_of_some _ e)
  have hx : ((h.push (tupObj rest)).push (excObj C h.objs.size)).get? (h.objs.size + 1) = some (excObj C h.objs.size) := by heap_get
  have t1 : Looks (model prog w) ((h.push (tupObj rest)).push (excObj C h.objs.size)) (typeOf (.ref (h.objs.size + 1))) (.ref C) := (Looks.ld hx).andThen .now
  have s1 := self.keeps k
  have i1 := hil.keeps k
  have b1 := (bind_fn (M := model prog w) X (.ref (h.objs.size + 1)) hf).keeps k
  unfold isInstance callSpecial? specialOf
  repeat (first | with_reducible refine wpAny_call ?_ | lk)
  refine codeAny_mono hq fun r s' z => ?_
  rcases r with e | (v | _ | _ | _) <;> first | exact z | exact z.elim | skip
  obtain ⟨rfl, z⟩ := z
  exact wpAny_pure (wpAny_pure z)
end
end Mine
end

section
open PySem PySem.W PyProof.Rows PySem.Spec PySem.Calls
set_option Elab.async false
set_option maxRecDepth 100000
set_option maxHeartbeats 40000000
namespace Mine

def TrP (H h : Heap) (e : Addr) (P : Obj → Prop) (fl : Value) : Prop :=
  ∃ oe vs T oT ts, h.get? e = some oe ∧ P oe ∧ oe.data = .fields vs ∧ vs[1]? = some (.ref T) ∧ H.get? T = none ∧ T ≠ e ∧ h.get? T = some oT ∧ oT.data = .fields ts ∧ ts[3]? = some fl

structure Flt (H : Heap) (fs : List Addr) (e : Addr) (P : Obj → Prop) (fl : Value) (h : Heap) : Prop where
  off : e ∉ fs
  keep : ∀ b o, H.get? b = some o → b ≠ e → b ∉ fs → h.get? b = some o
  slots : ∀ b o, H.get? b = some o → b ∈ fs → ∃ sl, h.get? b = some { o with slots := sl }
  tr : TrP H h e P fl

abbrev frs (l : List Env) : List Addr := l.filterMap (·.frame)

section
variable {M : Model} {A : Around} {E : Value → Shared → Prop} {s : Shared}

theorem note_new {bb : Heap} {env : Env} {outer : List Env} {L e : Addr} {oe : Obj} {vs : Array Value} {head : Value} {hadNext : Bool} {P : Obj → Prop} {Q : Unit → Shared → Prop}
    (hfr : A.frames = some (env :: outer)) (hl : s.heap.FunFrames bb (env :: outer)) (hf : env.frame = some L)
    (he : s.heap.get? e = some oe) (hd : oe.data = .fields vs) (hsz : 1 < vs.size) (hP : ∀ f, P (oe.mapFields f))
    (h : ∀ h', Flt s.heap (frs (env :: outer)) e P (rawInt L) h' → Q () { s with heap := h' }) :
    wpAny M A (do let a ← frameOf env; let pl ← entryPlaceOf L hadNext; let b ← EntryCells.newEntry head a .none (rawInt L) .none pl; setField (.ref e) 1 b) Q E s := by
  have hene : e ∉ frs (env :: outer) := fun hm => by
    obtain ⟨_, o, ho, hnf⟩ := hl.mem hm
    rw [he] at ho
    cases ho
    exact hnf vs hd
  refine wpAny_bind (wpAny_frameOf_fun hfr hl hf fun h₁ hs₁ => ?_)
  refine wpAny_bind (wpAny_entryPlaceOf fun pl hpl => ?_)
  unfold EntryCells.newEntry newFields
  refine wpAny_bind (wpAny_newObj_type ?_ (hpl.sizeOk5 _ _ _ _ _))
  have he₁ : h₁.get? e = some oe := (hs₁.2.1 e hene).trans he
  generalize hob : ({ cls := .type "traceback", dict := none, data := .fields ([head, .ref L, .none, rawInt L, .none] ++ (if pl.isEmpty then List.replicate 6 Value.none else pl)).toArray } : Obj) = ob
  have hbd : ob.data = .fields ([head, .ref L, .none, rawInt L, .none] ++ (if pl.isEmpty then List.replicate 6 Value.none else pl)).toArray := by rw [← hob]
  have hbf : ob.isFreed = false := by rw [← hob]; rfl
  have he₂ := Heap.get?_push_of_some (h := h₁) ob he₁
  refine wpAny_setField he₂ hd hsz (h _ ?_)
  have hne : h₁.objs.size ≠ e := Nat.ne_of_gt (Heap.lt_size he₁)
  have hd₃ := Obj.data_mapFields hd (·.setIfInBounds 1 (Value.ref h₁.objs.size))
  have he₃ := Heap.get?_update_self (Obj.mapFields (·.setIfInBounds 1 (Value.ref h₁.objs.size))) he₂ (Obj.isFreed_of_fields hd₃)
  have hT := (Heap.get?_update_other (h₁.push ob) (Obj.mapFields (·.setIfInBounds 1 (Value.ref h₁.objs.size))) (Ne.symm hne)).trans (Heap.get?_push_size h₁ hbf)
  have keep : ∀ b o, b ≠ e → h₁.get? b = some o → ((h₁.push ob).update e (Obj.mapFields (·.setIfInBounds 1 (Value.ref h₁.objs.size)))).get? b = some o := fun b o hbe hb =>
    (Heap.get?_update_other _ _ (Ne.symm hbe)).trans (Heap.get?_push_of_some _ hb)
  refine ⟨hene, fun b o hb hbe hbf => keep b o hbe ((hs₁.2.1 b hbf).trans hb), fun b o hb hm => ?_, ?_⟩
  · obtain ⟨sl, hsl⟩ := hs₁.2.2 b o hb
    exact ⟨sl, keep b _ (fun q => hene (q ▸ hm)) hsl⟩
  · have hTn : s.heap.get? h₁.objs.size = none := by
      cases hq : s.heap.get? h₁.objs.size with
      | none => rfl
      | some o => exact absurd (Nat.lt_of_lt_of_eq (Heap.lt_size hq) hs₁.1.symm) (Nat.lt_irrefl _)
    exact ⟨_, _, h₁.objs.size, _, _, he₃, hP _, hd₃, by simp [hsz], hTn, hne, hT, hbd, by first | (simp; done) | (rcases hpl with rfl | ⟨_, _, _, _, _, _, _, rfl⟩ <;> simp)⟩

theorem note_first {bb : Heap} {env : Env} {outer : List Env} {L e : Addr} {oe : Obj} {vs : Array Value} {P : Obj → Prop} {Q : Unit → Shared → Prop}
    (hfr : A.frames = some (env :: outer)) (hl : s.heap.FunFrames bb (env :: outer)) (hf : env.frame = some L)
    (he : s.heap.get? e = some oe) (hd : oe.data = .fields vs) (h1 : vs[1]? = some .none) (hP : ∀ f, P (oe.mapFields f))
    (h : ∀ h', Flt s.heap (frs (env :: outer)) e P (rawInt L) h' → Q () { s with heap := h' }) : wpAny M A (noteFrame (.ref e) env) Q E s := by
  unfold noteFrame
  simp only [hf]
  refine wpAny_bind (wpAny_field he hd h1 ?_)
  rw [if_neg (by decide)]
  exact note_new hfr hl hf he hd (Array.getElem?_eq_some_iff.mp h1).1 hP h

theorem Flt.mono {H h : Heap} {fs fs' : List Addr} {e : Addr} {P : Obj → Prop} {fl : Value} (x : Flt H fs e P fl h) (hs : ∀ b ∈ fs, b ∈ fs') (he : e ∉ fs') : Flt H fs' e P fl h := by
  refine ⟨he, fun b o hb hbe hn => x.keep b o hb hbe fun q => hn (hs b q), fun b o hb hm => ?_, x.tr⟩
  by_cases q : b ∈ fs
  · exact x.slots b o hb q
  · exact ⟨o.slots, x.keep b o hb (fun z => he (z ▸ hm)) q⟩

theorem note_next {H bb : Heap} {env : Env} {outer : List Env} {L e : Addr} {fs : List Addr} {P : Obj → Prop} {Q : Unit → Shared → Prop}
    (hfr : A.frames = some (env :: outer)) (hl : s.heap.FunFrames bb (env :: outer)) (hf : env.frame = some L) (hfs : ∀ b ∈ frs (env :: outer), b ∈ fs) (hP : ∀ o f, P o → P (o.mapFields f))
    (x : Flt H fs e P .none s.heap) (h : ∀ h', Flt H fs e P (rawInt L) h' → Q () { s with heap := h' }) : wpAny M A (noteFrame (.ref e) env) Q E s := by
  obtain ⟨off, keep, slots, oe, vs, T, oT, ts, he, hp, hd, h1, hTn, hTe, hT, hdT, h3⟩ := x
  unfold noteFrame
  simp only [hf]
  refine wpAny_bind (wpAny_field he hd h1 ?_)
  rw [if_pos (show (Value.ref T != Value.none) = true from by simp)]
  refine wpAny_bind (wpAny_field hT hdT h3 ?_)
  rw [if_neg (show ¬ ((Value.none == rawInt L) = true) from by simp [rawInt])]
  refine wpAny_bind (wpAny_setField hT hdT (Array.getElem?_eq_some_iff.mp h3).1 ?_)
  have other : ∀ b, b ≠ T → (s.heap.update T (Obj.mapFields (·.setIfInBounds 3 Value.none))).get? b = s.heap.get? b := fun b hb => Heap.get?_update_other _ _ (Ne.symm hb)
  have noRec : ∀ b o, s.heap.get? b = some o → (∀ vs, o.data ≠ .fields vs) → b ≠ T := fun b o hb hnf q => by
    rw [q, hT] at hb
    cases hb
    exact hnf ts hdT
  have neT : ∀ b o, H.get? b = some o → b ≠ T := fun b o hb q => by rw [q, hTn] at hb; cases hb
  refine note_new hfr (hl.of_keeps fun b o hb hnf => ⟨o, (other b (noRec b o hb hnf)).trans hb, rfl⟩) hf ((other e (Ne.symm hTe)).trans he) hd (Array.getElem?_eq_some_iff.mp h1).1 (fun f => hP _ f hp) fun h' y => h h' ?_
  obtain ⟨_, k2, s2, oe', vs', T', oT', ts', a1, a2, a3, a4, a5, a6, a7, a8, a9⟩ := y
  have up : ∀ b o, s.heap.get? b = some o → b ≠ e → b ≠ T → ∃ sl, h'.get? b = some { o with slots := sl } := fun b o hb hbe hbT => by
    by_cases m : b ∈ frs (env :: outer)
    · exact s2 b o ((other b hbT).trans hb) m
    · exact ⟨o.slots, k2 b o ((other b hbT).trans hb) hbe m⟩
  refine ⟨off, fun b o hb hbe hn => k2 b o ((other b (neT b o hb)).trans (keep b o hb hbe hn)) hbe fun m => hn (hfs b m), fun b o hb hm => ?_, ?_⟩
  · obtain ⟨sl, hs⟩ := slots b o hb hm
    by_cases q : b = e
    · exact absurd (q ▸ hm) off
    · obtain ⟨sl', hs'⟩ := up b _ hs q (neT b o hb)
      exact ⟨sl', hs'⟩
  · refine ⟨oe', vs', T', oT', ts', a1, a2, a3, a4, ?_, a6, a7, a8, a9⟩
    cases q : H.get? T' with
    | none => rfl
    | some o =>
      exfalso
      have hT'T : T' ≠ T := neT _ _ q
      have a5' : s.heap.get? T' = none := (other T' hT'T).symm.trans a5
      by_cases m : T' ∈ fs
      · obtain ⟨sl, hs⟩ := slots _ _ q m
        rw [a5'] at hs
        cases hs
      · have := keep _ _ q a6 m
        rw [a5'] at this
        cases this

theorem flight_off {H : Heap} {e : Addr} {fs : List Addr} {P : Obj → Prop} {fl : Value} {Q : Unit → Shared → Prop}
    (x : Flt H fs e P fl s.heap) (h : ∀ h', Flt H fs e P .none h' → Q () { s with heap := h' }) : wpAny M A (setFlight (.ref e) none) Q E s := by
  obtain ⟨off, keep, slots, oe, vs, T, oT, ts, he, hp, hd, h1, hTn, hTe, hT, hdT, h3⟩ := x
  have hsz3 : 3 < ts.size := (Array.getElem?_eq_some_iff.mp h3).1
  unfold setFlight
  refine wpAny_bind (wpAny_field he hd h1 ?_)
  rw [if_pos (show (Value.ref T != Value.none) = true from by simp)]
  have other : ∀ b, b ≠ T → (s.heap.update T (Obj.mapFields (·.setIfInBounds 3 ((none : Option Addr).elim Value.none fun f => rawInt f)))).get? b = s.heap.get? b := fun b hb => Heap.get?_update_other _ _ (Ne.symm hb)
  have neT : ∀ b o, H.get? b = some o → b ≠ T := fun b o hb q => by rw [q, hTn] at hb; cases hb
  refine wpAny_setField hT hdT hsz3 (h _ ⟨off, fun b o hb hbe hn => (other b (neT b o hb)).trans (keep b o hb hbe hn), fun b o hb hm => ?_, ?_⟩)
  · obtain ⟨sl, hs⟩ := slots b o hb hm
    exact ⟨sl, (other b (neT b o hb)).trans hs⟩
  · exact ⟨oe, vs, T, _, _, (other e (Ne.symm hTe)).trans he, hp, hd, h1, hTn, hTe, Heap.get?_update_self _ hT (Obj.isFreed_of_fields (Obj.data_mapFields hdT _)), Obj.data_mapFields hdT _, by simp [hsz3]⟩
end
end Mine
end

section
open PySem PySem.W PyProof.Rows PySem.Spec PySem.Calls Builtin Builtin.ObjectAttr
set_option Elab.async false
set_option maxRecDepth 100000
set_option maxHeartbeats 40000000
namespace Mine
section
variable {prog : Program} {w : World} {A : Around} {E : Value → Shared → Prop} {s : Shared} {K : Frag} {C e fI : Addr} {R : Result → Shared → Prop} {h₀ : Heap} {L : Addr} {m : Str → Option Value} {news : List (Addr × Obj)} {news' : Addr → List (Addr × Obj)}
variable {nm q : Str} {N₁ : Addr} {bs : List Value} {hdct : Bool} {sn : List Str} {sub : List Value} {ab : Bool} {col : Option Bool} {dd : Option Addr} {k0 k1 k2 k3 k5 : Option Value}

theorem exc_make {rest : List Value} (F : Fr h₀ L s.heap m) (X : K.In h₀) (N : News h₀ L s.heap news)
    (hCK : K.lookup C = some (excClassObj nm q C N₁ bs bmE hdct sn sub ab col dd k0 k1 k2 k3 k5 "Exception.__new__"))
    (hcall : specialIn K (.ref C) "__call__" = some (some (.builtin "type.__call__"))) (htyp : instIn K (.ref C) (.type "type") = some true)
    (hi : findIn K (.ref C) "__init__" = some (some (.ref fI))) (hf : typeIn K (.ref fI) = some (.type "function")) (hrest : rest.length ≤ sizeLine)
    (hq : ∀ e t h', Fr h₀ L h' m → News h₀ L h' ((e, excObj C t) :: (t, tupObj rest) :: news) → (∀ p ∈ news, p.1 < t) → t < e → (∀ b o, s.heap.get? b = some o → h'.get? b = some o) → s.heap.get? e = none →
      codeAny (model prog w) (A.under (.builtin "type.__call__" ⟨.ref C :: rest, []⟩)) (.call (.ref fI) ⟨.ref e :: rest, []⟩) (InitBack e R) { s with heap := h' }) :
    codeAny (model prog w) A (.call (.ref C) ⟨rest, []⟩) R s := by
  have XX := X.keeps F.keep
  obtain ⟨hh, g, d, t, os⟩ := s
  refine exc_core XX hCK hcall htyp hi hf hrest (hq (hh.objs.size + 1) hh.objs.size _ ((F.push _).push _) ?_ (fun p hp => Heap.lt_size (N p hp).1) (Nat.lt_succ_self _) (fun b o e => Heap.get?_push_of_some _ (Heap.get?_push_of_some _ e)) (Heap.get?_none_of_le (Nat.le_succ _)))
  have N2 := (N.push F (tupObj rest)).push (F.push _) (excObj C hh.objs.size)
  rwa [Heap.size_push] at N2

theorem exc_binit {rest : List Value} {t₀ : Addr} (F : Fr h₀ L s.heap m) (X : K.In h₀) (N : News h₀ L s.heap news)
    (hCK : K.lookup C = some (excClassObj nm q C N₁ bs bmE hdct sn sub ab col dd k0 k1 k2 k3 k5 "Exception.__new__"))
    (hrest : rest.length ≤ sizeLine) (U : ∀ t, Upd e (excObj C t₀) (excObj C t) news (news' t)) {Q : Value → Shared → Prop}
    (hq : ∀ t h', Fr h₀ L h' m → News h₀ L h' ((t, tupObj rest) :: news' t) → (∀ p ∈ news, p.1 < t) → Q .none { s with heap := h' }) :
    wpAny (model prog w) A (call (.builtin "Exception.__init__") (.ref e :: rest)) Q E s := by
  have FX := PySem.F.excBase_Exception
  have hC := F.keep _ _ (X _ _ hCK)
  obtain ⟨pre, post, hn, hn', h1, h2⟩ := (U s.heap.objs.size).split
  have he : s.heap.get? e = some (excObj C t₀) := (N _ (by rw [hn]; exact List.mem_append_right _ (.head _))).1
  have hq' := hq s.heap.objs.size ((s.heap.push (tupObj rest)).update e (Obj.mapFields (·.setIfInBounds 0 (.ref s.heap.objs.size))))
  have NP := N.push F (tupObj rest)
  rw [hn] at NP
  have hne : s.heap.objs.size ≠ e := Nat.ne_of_gt (Heap.lt_size he)
  have V := news_upd (pre := (s.heap.objs.size, tupObj rest) :: pre) (f := Obj.mapFields (·.setIfInBounds 0 (.ref s.heap.objs.size))) (o' := excObj C s.heap.objs.size) (F.push (tupObj rest)) NP
    (fun p hp => by rcases List.mem_cons.mp hp with rfl | hp; exact hne; exact h1 p hp) h2 rfl rfl
  have fin := hq' V.1 (by rw [hn']; exact V.2) (fun p hp => Heap.lt_size (N p hp).1)
  clear hq hq' V NP
  obtain ⟨hh, g, d, tk, os⟩ := s
  refine wpAny_call (codeAny_call_builtin FX.init.plain FX.initEntry (wpAny_check_init_sub FX hC he rfl ?_))
  wp_walk
  exact fin

theorem exc_osa {ox : Obj} {od : Option Obj} {name : Str} {tk : Tok} {v : Value} {cd : ClassData} (X : K.In s.heap) (I : InstAt s.heap e ox C od) (hc : clsIn K C = some cd) (hm : cd.mro = .ref C :: bmE) (ht : takerIn K C name = some none)
    (h : ∀ b, wpAny (model prog w) A.in1 (storeInOwnDict (.ref e) (.ref C) (.str name tk) name v b)
      (fun fin s' => match fin with | .done f => R (.ok f) s' | .again c' => c'.quiet = true ∧ codeAny (model prog w) A c' R s') (fun e s' => R (.error e) s') s) :
    codeAny (model prog w) A (.call (.builtin "object.__setattr__") ⟨[.ref e, .str name tk, v], []⟩) R s := by
  have SF := PySem.F.store_Exception
  have hmro : Looks (model prog w) s.heap (mroOf (.ref C)) (.ref C :: bmE) := hm ▸ (looks_clsIn X hc).andThen .now
  have sub : Looks (model prog w) s.heap (isInstance (.ref e) (.type "object")) true := I.type.andThen (looks_mroIn X (by unfold mroIn; rw [hc, Option.bind_some, hm]; rfl))
  refine codeAny_call_builtin SF.slot.plain SF.entry (@check_slot (model prog w) _ _ s "object.__setattr__" "object" "__setattr__" (.ref e) [.str name tk, v] [] _ SF.kind SF.split sub (SF.args (.ref e) (.str name tk) v) ?_)
  obtain ⟨attr, ha, hr⟩ := Option.bind_eq_some_iff.mp ht
  have L3 : Looks (model prog w) s.heap (storeTaker? attr) none := by
    cases attr with
    | none => exact .now
    | some a =>
      obtain ⟨b, hb, hbn⟩ := Option.map_eq_some_iff.mp hr
      cases b with
      | true => simp at hbn
      | false => exact (looks_takesIn X hb).andThen .now
  rw [osa_eq, refuse_eq]
  refine wpAny_bind (wpAny_bind (I.type.here (wpAny_bind (hmro.here ?_))))
  rw [refuseLoop_ref, SF.passes]
  exact wpAny_pure (wpAny_bind (I.type.here (wpAny_bind ((looks_findIn X ha).here (wpAny_bind (L3.here (h _)))))))

theorem exc_set0 {t₀ : Addr} {name : Str} {v : Value} {cd : ClassData} {Q : Unit → Shared → Prop} (F : Fr h₀ L s.heap m) (X : K.In h₀) (N : News h₀ L s.heap news)
    (hc : clsIn K C = some cd) (hm : cd.mro = .ref C :: bmE) (hh : cd.hasDict = true) (ht : takerIn K C name = some none)
    (hs : findIn K (.ref C) "__setattr__" = some (some (.builtin "object.__setattr__")))
    (U : ∀ D, Upd e (excObj C t₀) { excObj C t₀ with dict := some D } news (news' D))
    (hq : ∀ D h' tk', Fr h₀ L h' m → News h₀ L h' ((D, dictOf [⟨PyData.keyHash w.params name, .str name (s.toks + 1), v⟩] 1) :: news' D) → (∀ p ∈ news, p.1 < D) → Q () { s with heap := h', toks := tk' }) :
    wpAny (model prog w) A (setAttr (.ref e) name v) Q E s := by
  obtain ⟨pre, post, hn, hn', h1, h2⟩ := (U s.heap.objs.size).split
  have he : s.heap.get? e = some (excObj C t₀) := (N _ (by rw [hn]; exact List.mem_append_right _ (.head _))).1
  have XX := X.keeps F.keep
  have I : InstAt s.heap e (excObj C t₀) C none := ⟨he, rfl, rfl, trivial⟩
  refine set_plain XX I hs ?_
  refine exc_osa (s := { s with toks := s.toks + 1 }) XX I hc hm ht fun b => ?_
  have NP := N.push F emptyDict
  rw [hn] at NP
  have hne : s.heap.objs.size ≠ e := Nat.ne_of_gt (Heap.lt_size he)
  obtain ⟨F2, N2⟩ := news_upd (pre := (s.heap.objs.size, emptyDict) :: pre) (f := fun o => { o with dict := some s.heap.objs.size }) (o' := { excObj C t₀ with dict := some s.heap.objs.size }) (F.push emptyDict) NP
    (fun p hp => by rcases List.mem_cons.mp hp with rfl | hp; exact hne; exact h1 p hp) h2 rfl rfl
  obtain ⟨F3, N3⟩ := news_upd (pre := []) (d := s.heap.objs.size) (o := dictOf [] 0) (f := Obj.putName name (PyData.keyHash w.params name) (.str name (s.toks + 1)) v)
    (o' := dictOf [⟨PyData.keyHash w.params name, .str name (s.toks + 1), v⟩] 1) F2 N2
    (fun _ h => nomatch h) (fun p hp => by
      rcases List.mem_append.mp hp with hp | hp
      · exact Nat.ne_of_lt (Heap.lt_size (N p (by rw [hn]; exact List.mem_append_left _ hp)).1)
      · rcases List.mem_cons.mp hp with rfl | hp
        · exact Ne.symm hne
        · exact Nat.ne_of_lt (Heap.lt_size (N p (by rw [hn]; exact List.mem_append_right _ (.tail _ hp))).1)) (by rw [putName_dict]; rfl) rfl
  have fin := hq s.heap.objs.size _ (s.toks + 1 + 1) F3 (by rw [hn']; exact N3) (fun p hp => Heap.lt_size (N p hp).1)
  have D2 := (N2 (s.heap.objs.size, emptyDict) (List.mem_append_left _ (.head _))).1
  have D3 := (N3 (s.heap.objs.size, dictOf [⟨PyData.keyHash w.params name, .str name (s.toks + 1), v⟩] 1) (.head _)).1
  have hpush := Heap.get?_push_of_some emptyDict he
  refine wpAny_bind (wpAny_pure (wpAny_bind (wpAny_bind (wpAny_loadPart he (wpAny_bind ((looks_clsIn XX hc).at ?_))))))
  rw [hh]
  refine wpAny_bind (wpAny_alloc (wpAny_bind (wpAny_update hpush (wpAny_pure (a := some s.heap.objs.size) (wpAny_bind (wpAny_pure (wpAny_bind ?_)))))))
  unfold nsSet
  refine wpAny_bind (wpAny_bind (wpAny_askSetting (wpAny_pure (wpAny_bind (wpAny_mkText (wpAny_bind (wpAny_loadPart D2 ?_)))))))
  refine wpAny_updatePart D2 ?_
  exact wpAny_bind (wpAny_lookBehind D3 (pastItsLine_dict (by rw [sizeLine_eq]; simp)) (wpAny_pure fin))
end
end Mine
end

section
open PySem PySem.W PyProof.Rows PySem.Spec PySem.Calls Builtin Builtin.ObjectAttr
set_option Elab.async false
set_option maxRecDepth 100000
set_option maxHeartbeats 40000000
namespace Mine
section
variable {prog : Program} {w : World} {A : Around} {E : Value → Shared → Prop} {s : Shared} {K : Frag} {C e : Addr} {h₀ : Heap} {L : Addr} {m : Str → Option Value} {news news' : List (Addr × Obj)}

theorem exc_set1 {ex : Obj} {D : Addr} {es es' : List DictEntry} {n n' : Nat} {name : Str} {v : Value} {cd : ClassData} {Q : Unit → Shared → Prop} (F : Fr h₀ L s.heap m) (X : K.In h₀) (N : News h₀ L s.heap news)
    (hex : (e, ex) ∈ news) (hcl : ex.cls = .ref C) (hnc : notCls ex = true) (hdx : ex.dict = some D)
    (hc : clsIn K C = some cd) (hm : cd.mro = .ref C :: bmE) (hh : cd.hasDict = true) (ht : takerIn K C name = some none)
    (hs : findIn K (.ref C) "__setattr__" = some (some (.builtin "object.__setattr__"))) (hl : (getL name es).isSome = true)
    (hp : (putL name (PyData.keyHash w.params name) (.str name (s.toks + 1)) v es, putN name es n) = (es', n')) (hz : es'.length ≤ 1000)
    (U : Upd D (dictOf es n) (dictOf es' n') news news')
    (hq : ∀ h' tk', Fr h₀ L h' m → News h₀ L h' news' → Q () { s with heap := h', toks := tk' }) :
    wpAny (model prog w) A (setAttr (.ref e) name v) Q E s := by
  obtain ⟨pre, post, hn, hn', h1, h2⟩ := U.split
  have XX := X.keeps F.keep
  have he : s.heap.get? e = some ex := (N _ hex).1
  have hD : s.heap.get? D = some (dictOf es n) := (N _ (by rw [hn]; exact List.mem_append_right _ (.head _))).1
  obtain ⟨oc, odi, oda, osl⟩ := ex
  dsimp only at hcl hdx
  subst hcl hdx
  have I : InstAt s.heap e ⟨.ref C, some D, oda, osl⟩ C (some (dictOf es n)) := ⟨he, rfl, hnc, hD⟩
  refine set_plain XX I hs ?_
  refine exc_osa (s := { s with toks := s.toks + 1 }) XX I hc hm ht fun b => ?_
  obtain ⟨e1, e2⟩ := Prod.mk.inj hp
  have NN := N
  rw [hn] at NN
  obtain ⟨F2, N2⟩ := news_upd (f := Obj.putName name (PyData.keyHash w.params name) (.str name (s.toks + 1)) v) (o' := dictOf es' n') F NN h1 h2 (by rw [putName_dict, e1, e2]) rfl
  have fin := hq _ (s.toks + 1 + 1) F2 (by rw [hn']; exact N2)
  have D2 := (N2 (D, dictOf es' n') (List.mem_append_right _ (.head _))).1
  refine wpAny_bind (wpAny_pure (wpAny_bind (wpAny_bind (wpAny_loadPart he (wpAny_bind ((looks_clsIn XX hc).at ?_))))))
  rw [hh]
  refine wpAny_pure (a := some D) (wpAny_bind (wpAny_pure (wpAny_bind ?_)))
  unfold nsSet
  refine wpAny_bind (wpAny_bind (wpAny_askSetting (wpAny_pure (wpAny_bind (wpAny_mkText (wpAny_bind (wpAny_loadPart hD ?_)))))))
  have c : (!es.toArray.any (·.key.isStr name) && es.toArray.any (·.refKey)) = false := by
    rw [← Array.any_toList, ← Array.any_toList]
    unfold getL at hl
    split at hl
    · rename_i en hen
      rw [show es.toArray.toList = es from rfl, List.any_eq_true.mpr ⟨en, List.mem_of_find?_eq_some hen, List.find?_some hen⟩]
      rfl
    · split at hl
      · cases hl
      · rename_i z
        rw [Bool.not_eq_true] at z
        rw [show es.toArray.toList = es from rfl, z, Bool.and_false]
  dsimp only
  rw [aRefKeyMayBeTheName_at, c]
  refine wpAny_updatePart hD ?_
  exact wpAny_bind (wpAny_lookBehind D2 (pastItsLine_dict (by rw [List.size_toArray, sizeLine_eq]; omega)) (wpAny_pure fin))

theorem exc_get {x : Addr} {ox : Obj} {od : Option Obj} {name : Str} {v : Value} {expr : Bool} {Q : Value → Shared → Prop} (X : K.In s.heap) (I : InstAt s.heap x ox C od)
    (hga : findIn K (.ref C) "__getattribute__" = some (some (.builtin "BaseException.__getattribute__"))) (hgn : findIn K (.ref C) "__getattr__" = some none)
    (hb : mroIn K C (.type "BaseException") = some true) (hf : findObj K C od name = some (.value v)) (hh : handedIn v = true) (h : Q v { s with toks := s.toks + 1 }) :
    wpAny (model prog w) A (getAttr (.ref x) name expr) Q E s := by
  obtain ⟨hp, g, d, t, os⟩ := s
  have L0 := I.type (M := model prog w)
  have L1 := looks_findIn (M := model prog w) X hga
  have L2 := looks_findIn (M := model prog w) X hgn
  have L3 := looks_find (M := model prog w) X I hf
  have L4 : Looks (model prog w) hp (isInstance (.ref x) (.type "BaseException")) true := L0.andThen (looks_mroIn X hb)
  have G := PySem.F.attr_Exception.ga
  unfold getAttr getAttrBy
  refine wpAny_bind (wpAny_mkText (wpAny_holding (wpAny_bind (L0.at (wpAny_bind (L1.at ?_))))))
  show wpAny _ _ (getAttrByItsOwn _ _ _ _ _ _) _ _ _
  unfold getAttrByItsOwn hookBefore
  refine wpAny_bind (L2.at ?_)
  refine wpAny_bind (wpAny_attempt (wpAny_holding ?_))
  have hx : callGetattribute (.ref x) (.str name t) (.builtin "BaseException.__getattribute__") expr = boundAndCalled (.builtin "BaseException.__getattribute__") (.ref x) (.str name t) := by
    unfold callGetattribute
    cases expr <;> rfl
  rw [hx]
  unfold boundAndCalled
  rw [G.bind]
  refine wpAny_bind (wpAny_pure (wpAny_call (codeAny_call_builtin G.plain PySem.F.entry_bexc_ga ?_)))
  refine @check_slot (model prog w) _ _ _ "BaseException.__getattribute__" "BaseException" "__getattribute__" (.ref x) [.str name t] [] _ (by decide +kernel) (by decide +kernel) L4 (PySem.F.args_bexc_ga _ _) ?_
  refine wpAny_bind (wpAny_pure (wpAny_bind (wpAny_pure (wpAny_bind (L0.at (wpAny_bind (L3.at ?_)))))))
  refine wpAny_pure ?_
  show wpAny _ _ (handedOut v) _ _ _
  rw [handedOut_of hh]
  exact wpAny_pure h

def OwnRaise (K : Frag) (E : Value → Shared → Prop) (v : Value) (s₁ : Shared) : Prop :=
  ∃ a ob vs C, K.In s₁.heap ∧ mroIn K C (.type "BaseException") = some true ∧ typeIn K (.ref C) = some (.type "type") ∧ v = .ref a ∧ s₁.heap.get? a = some ob ∧ ob.cls = .ref C ∧ ob.data = .fields vs ∧ vs[1]? = some .none ∧ E (.ref a) s₁

theorem Raise_own {ex : Expr} {env : Env} {pos : Pos} {Q : Flow → Shared → Prop} (hh : A.handled = none)
    (h : wpAny (model prog w) A (eval ex env) (OwnRaise K E) E s) : wpAny (model prog w) A (exec (.Raise (some ex) none pos) env) Q E s := by
  show wpAny _ A (do standAt pos; raiseStmt env (some (do let v ← eval ex env; standAt pos; pure v)) none) Q E s
  refine wpAny_bind (wpAny_standAt ?_)
  unfold raiseStmt
  dsimp only
  refine wpAny_bind (wpAny_bind (wpAny_mono h (fun v s₁ h₁ => wpAny_bind (wpAny_standAt (wpAny_pure ?_))) fun _ _ x => x))
  obtain ⟨a, ob, vs, C, X, hm, ht, rfl, ha, hcls, hd, h1, hE⟩ := h₁
  have L0 : Looks (model prog w) s₁.heap (typeOf (.ref a)) (.ref C) := hcls ▸ (Looks.ld ha).andThen .now
  have L1 : Looks (model prog w) s₁.heap (isInstance (.ref a) (.type "BaseException")) true := L0.andThen (looks_mroIn X hm)
  have L2 : Looks (model prog w) s₁.heap (isType (.ref a)) false := by
    simp only [isType, loadHead]
    refine (Looks.ld ha).andThen ?_
    rw [hd]
    exact .now
  have L3 := looks_typeIn (M := model prog w) X ht
  refine wpAny_bind (wpAny_pure ?_)
  dsimp only
  refine wpAny_bind (wpAny_holding ?_)
  unfold excFromValue isExcClass
  refine wpAny_bind (wpAny_bind (L2.here ?_))
  simp only [Bool.false_eq_true, if_false]
  refine wpAny_pure ?_
  simp only [Bool.false_eq_true, if_false]
  refine wpAny_bind (L1.here ?_)
  simp only [if_true]
  refine wpAny_pure ?_
  refine wpAny_bind (L2.here ?_)
  simp only [Bool.false_eq_true, if_false]
  unfold raisedInstance
  refine wpAny_bind (wpAny_bind (L0.here (wpAny_bind (L3.here ?_))))
  rw [if_pos (by rfl)]
  refine wpAny_pure ?_
  unfold setFlight raiseNew
  refine wpAny_bind (wpAny_bind (wpAny_field ha hd h1 ?_))
  rw [if_neg (by decide)]
  refine wpAny_pure (wpAny_bind (wpAny_handled ?_))
  rw [hh]
  first
    | exact wpAny_throw hE
    | exact wpAny_bind (wpAny_pure (wpAny_throw hE))
end
end Mine
end

section
open PySem PySem.W PyProof.Rows PySem.Spec PySem.Calls Builtin Builtin.ObjectAttr
set_option Elab.async false
set_option maxRecDepth 100000
set_option maxHeartbeats 40000000
namespace Mine
theorem fillCtx1 : ∀ (o : OpenLaw) (f : Params → Frag), o = Challenge.rw_no0050_01 → f = hd.heap_39 → True := by
  k_fill
  w_top off
  intros; trivial

abbrev AR (dp un : Nat) (gd : Option (List Code)) (env : Env) (outer : List Env) : Around := { handled := none, depth := dp, frames := some (env :: outer), guards := gd, units := un }

structure Ctx (w : World) (mean : ExcName → Option Value) (mg mb : Str → Option Value) (base h : Heap) (l : List Env) : Prop where
  stays : base.StaysIn h
  size : base.objs.size ≤ h.objs.size
  frames : h.FunFrames base l
  K : (hd.heap_39 w.params).In base
  T : TT mean mg mb base

abbrev Keeps (h h' : Heap) : Prop := ∀ b o, h.get? b = some o → h'.get? b = some o

section
variable {w : World} {mean : ExcName → Option Value} {mg mb : Str → Option Value} {base : Heap} {A : Around} {s : Shared} {env : Env} {outer : List Env}
  {R : Result → Shared → Prop} {name qual : Str} {params : Arguments} {body : List Stmt} {scope : Scope} {dV kV doc pm cdv ct oc : Value} {an od : Option Addr} {osl : Array (Option Value)} {f : Addr} {args : Args} {binds : List (Str × Value)}

theorem enterP (C : Ctx w mean mg mb base s.heap (env :: outer)) (hA : A.frames = some (env :: outer))
    (ho : (hd.heap_39 w.params).lookup f = some ⟨oc, od, .func (fnOf name qual params body scope dV kV doc pm an cdv ct), osl⟩) (hcd : codeIn (hd.heap_39 w.params) cdv qual = true) (hroom : A.depth < recursionLimit)
    (hbind : BindsTo s (fnOf name qual params body scope dV kV doc pm an cdv ct) args binds) (hloc : ∀ y ∈ binds, scope.names.lookup y.1 = some .local)
    (h : ∀ g L' h₁, g = s.heap → Fr g L' h₁ (fun y => binds.reverse.lookup y) → News g L' h₁ [] → Below A base (env :: outer) g → (hd.heap_39 w.params).In g → TT mean mg mb g →
      wpAny (MM w) (A.deeper (envOf qual scope L' f cdv)) (execs body (envOf qual scope L' f cdv))
        (fun fl s' => R (.ok (.ret (match fl with | .ret v => v | _ => .none))) s')
        (fun e s' => wpAny (MM w) (A.deeper (envOf qual scope L' f cdv)) (leaving (envOf qual scope L' f cdv) e) (fun _ s'' => R (.error e) s'') (fun e' s'' => R (.error e') s'') s')
        { s with heap := h₁, toks := s.toks + binds.length })
    (hco : scope.isCoroutine = false) (hgen : scope.isGenerator = false) (hk : scope.kind = .function)
    (hcell : ∀ x ∈ scope.names, x.2 ≠ .cell) : codeAny (MM w) A (.call (.ref f) args) R s := by
  have X := C.K.keeps C.stays
  have T : TT mean mg mb s.heap := C.T.keeps C.stays
  refine codeAny_call_def (fd := fnOf name qual params body scope dV kV doc pm an cdv ct) (body := body) (binds := binds) hroom (X _ _ ho) rfl T.nolimit (codeRec_of X hcd) rfl hbind hcell hloc (fun h₁ hns hk₁ => ?_) hco hgen hk
  exact h s.heap s.heap.objs.size h₁ rfl ⟨hns, hk₁, Nat.le_refl _⟩ .nil ⟨hA, C.stays, C.frames⟩ X T
end

end Mine
end

section
open PySem PySem.W PyProof.Rows PySem.Spec PySem.Calls Builtin Builtin.ObjectAttr
set_option Elab.async false
set_option maxRecDepth 100000
set_option maxHeartbeats 40000000
namespace Mine
abbrev PE (C D : Addr) : Obj → Prop := fun o => o.cls = .ref C ∧ o.dict = some D
theorem pe_map {C D : Addr} (o : Obj) (f : Array Value → Array Value) (h : PE C D o) : PE C D (o.mapFields f) := by
  obtain ⟨c, d, dt, sl⟩ := o
  cases dt <;> exact h

def Raised (G : Heap) (fs : List Addr) (e C D : Addr) (od : Obj) (h : Heap) : Prop :=
  ∃ H fs', Keeps G H ∧ (∀ b ∈ fs, b ∈ fs') ∧ (∀ b ∈ fs', b ∉ fs → G.get? b = none) ∧ G.get? e = none ∧ H.get? D = some od ∧ D ≠ e ∧ D ∉ fs' ∧ G.get? D = none ∧ Flt H fs' e (PE C D) .none h

theorem Raised.keep {G h : Heap} {fs : List Addr} {e C D : Addr} {od : Obj} (R : Raised G fs e C D od h) {b : Addr} {o : Obj} (hb : G.get? b = some o) (hn : b ∉ fs) : h.get? b = some o := by
  obtain ⟨H, fs', k, _, hfs, he, _, _, _, _, x⟩ := R
  refine x.keep b o (k b o hb) (fun q => ?_) fun m => ?_
  · rw [q, he] at hb; cases hb
  · rw [hfs b m hn] at hb; cases hb
theorem Raised.slots {G h : Heap} {fs : List Addr} {e C D : Addr} {od : Obj} (R : Raised G fs e C D od h) {b : Addr} {o : Obj} (hb : G.get? b = some o) : ∃ sl, h.get? b = some { o with slots := sl } := by
  by_cases m : b ∈ fs
  · obtain ⟨H, fs', k, hin, _, _, _, _, _, _, x⟩ := R
    exact x.slots b o (k b o hb) (hin b m)
  · exact ⟨o.slots, R.keep hb m⟩
theorem Raised.dict {G h : Heap} {fs : List Addr} {e C D : Addr} {od : Obj} (R : Raised G fs e C D od h) : h.get? D = some od := by
  obtain ⟨H, fs', _, _, _, _, hD, hne, hn, _, x⟩ := R
  exact x.keep D od hD hne hn
theorem Raised.exc {G h : Heap} {fs : List Addr} {e C D : Addr} {od : Obj} (R : Raised G fs e C D od h) : ∃ oe vs, h.get? e = some oe ∧ PE C D oe ∧ oe.data = .fields vs := by
  obtain ⟨H, fs', _, _, _, _, _, _, _, _, x⟩ := R
  obtain ⟨oe, vs, _, _, _, a1, a2, a3, _⟩ := x.tr
  exact ⟨oe, vs, a1, a2, a3⟩
theorem Raised.frames {G h base : Heap} {fs : List Addr} {e C D : Addr} {od : Obj} {l : List Env} (R : Raised G fs e C D od h) (hl : G.FunFrames base l) : h.FunFrames base l :=
  hl.of_keeps fun b o hb _ => let ⟨_, hs⟩ := R.slots hb; ⟨_, hs, rfl⟩

section
variable {M : Model} {A : Around} {E : Value → Shared → Prop} {s : Shared} {base g h₂ : Heap} {outer : List Env} {L a e C D t : Addr} {od : Obj} {m : Str → Option Value} {name : Str} {scope : Scope} {cd : Value} {Q : Unit → Shared → Prop} {news : List (Addr × Obj)}

theorem raised_first (B : Below A base outer g) (F : Fr g L s.heap m) (N : News g L s.heap news) (he : (e, ({ excObj C t with dict := some D } : Obj)) ∈ news) (hD : (D, od) ∈ news) (hne : D ≠ e)
    (hQ : ∀ h', Raised g (frs outer) e C D od h' → Q () { s with heap := h' }) (hk : scope.kind = .function := by rfl) :
    wpAny M (A.deeper (envOf name scope L a cd)) (leaving (envOf name scope L a cd) (.ref e)) Q E s := by
  have K' := B.push (name := name) (a := a) (cd := cd) F hk
  unfold leaving
  refine wpAny_bind (note_first (P := PE C D) K'.stack K'.frames rfl (N.get he) rfl rfl (fun f => pe_map _ f ⟨rfl, rfl⟩) fun h1 x1 => ?_)
  refine flight_off x1 fun h2 x2 => hQ h2 ⟨s.heap, _, F.keep, fun b hb => ?_, fun b hb hn => ?_, N.fresh he, N.get hD, hne, fun m => ?_, N.fresh hD, x2⟩
  · exact List.mem_cons_of_mem _ hb
  · rcases kts_mem hb with z | z
    · rw [z]; exact kts_self F
    · exact absurd z hn
  · rcases kts_mem m with z | z
    · exact (N _ hD).2.1 z
    · obtain ⟨_, o, ho, _⟩ := B.frames.mem z
      rw [N.fresh hD] at ho; cases ho

theorem raised_next (B : Below A base outer g) (F : Fr g L h₂ m) (R : Raised h₂ (frs (envOf name scope L a cd :: outer)) e C D od s.heap)
    (hQ : ∀ h', Raised g (frs outer) e C D od h' → Q () { s with heap := h' }) (hk : scope.kind = .function := by rfl) :
    wpAny M (A.deeper (envOf name scope L a cd)) (leaving (envOf name scope L a cd) (.ref e)) Q E s := by
  have K' := B.push (name := name) (a := a) (cd := cd) F hk
  have KF := R.frames K'.frames
  obtain ⟨H, fs', k, hin, hfs, he, hD, hne, hn, hDn, x⟩ := R
  unfold leaving
  refine wpAny_bind (note_next K'.stack KF rfl hin pe_map x fun h1 x1 => ?_)
  refine flight_off x1 fun h2 x2 => hQ h2 ⟨H, fs', fun b o hb => k b o (F.keep b o hb), fun b hb => hin b (List.mem_cons_of_mem _ hb), fun b hb hnb => ?_, kts_none F.keep he, hD, hne, hn, kts_none F.keep hDn, x2⟩
  by_cases z : b ∈ frs (envOf name scope L a cd :: outer)
  · rcases kts_mem z with z | z
    · rw [z]; exact kts_self F
    · exact absurd z hnb
  · exact kts_none F.keep (hfs b hb z)

theorem raised_ground (B : Below A base outer g) (F : Fr g L h₂ m) {h : Heap} (R : Raised h₂ (frs (envOf name scope L a cd :: outer)) e C D od h) :
    ∃ g', KtsTurn (frs outer) g g' ∧ Fr g' L h m ∧ Below A base outer g' := by
  have off : ∀ b o, g.get? b = some o → b ∉ frs outer → b ∉ frs (envOf name scope L a cd :: outer) := fun b o hb hn hm => by
    rcases kts_mem hm with z | z
    · rw [z, kts_self F] at hb; cases hb
    · exact hn z
  obtain ⟨T, S⟩ := kts_turn_at (h := h) (fs := frs outer) (g := g)
    (fun b hb => let ⟨_, o, ho, _⟩ := B.frames.mem hb; ⟨o, ho⟩)
    (fun b o hb hn => R.keep (F.keep b o hb) (off b o hb hn))
    (fun b o hb _ => R.slots (F.keep b o hb))
  refine ⟨_, T, ⟨?_, S, by rw [T.size]; exact F.above⟩, ⟨B.stack, fun b o e => T.other b o (B.stays b o e) (fun hm => by
    rw [(B.frames.mem hm).1] at e
    cases e), B.frames.of_keeps fun b o e _ => let ⟨sl, hs⟩ := T.up e; ⟨_, hs, rfl⟩⟩⟩
  obtain ⟨o, es, ep, ho, hd, r⟩ := F.ns
  obtain ⟨sl, hs⟩ := R.slots ho
  exact ⟨_, es, ep, hs, hd, r⟩

theorem raised_lands (B : Below A base outer g) (F : Fr g L h₂ m) (R : Raised h₂ (frs (envOf name scope L a cd :: outer)) e C D od s.heap)
    (hQ : ∀ h', Raised h₂ (frs (envOf name scope L a cd :: outer)) e C D od h' → Q () { s with heap := h' }) (hk : scope.kind = .function := by rfl) :
    wpAny M (A.deeper (envOf name scope L a cd)) (noteFrame (.ref e) (envOf name scope L a cd)) (fun _ s₂ => wpAny M (A.deeper (envOf name scope L a cd)) (setFlight (.ref e) none) Q E s₂) E s := by
  have K' := B.push (name := name) (a := a) (cd := cd) F hk
  have KF := R.frames K'.frames
  obtain ⟨H, fs', k, hin, hfs, he, hD, hne, hn, hDn, x⟩ := R
  refine note_next K'.stack KF rfl hin pe_map x fun h1 x1 => ?_
  exact flight_off x1 fun h2 x2 => hQ h2 ⟨H, fs', k, hin, hfs, he, hD, hne, hn, hDn, x2⟩

theorem raised_again {G : Heap} {fs : List Addr} {M : Model} {A : Around} (R : Raised G fs e C D od s.heap)
    (hQ : ∀ h', Raised G fs e C D od h' → Q () { s with heap := h' }) : wpAny M A (setFlight (.ref e) none) Q E s := by
  obtain ⟨H, fs', k, hin, hfs, he, hD, hne, hn, hDn, x⟩ := R
  exact flight_off x fun h2 x2 => hQ h2 ⟨H, fs', k, hin, hfs, he, hD, hne, hn, hDn, x2⟩
end

theorem matches_own {M : Model} {A : Around} {E : Value → Shared → Prop} {K : Frag} {s : Shared} {e C C' : Addr} {oe : Obj} {b : Bool} {Q : Bool → Shared → Prop} (X : K.In s.heap)
    (he : s.heap.get? e = some oe) (hcls : oe.cls = .ref C) (ht : typeIn K (.ref C') = some (.type "type")) (hcl : isClsIn K C' = true) (hb : mroIn K C' (.type "BaseException") = some true) (hm : mroIn K C (.ref C') = some b)
    (hq : Q b s) : wpAny M A (excMatches (.ref e) (.ref C')) Q E s := by
  obtain ⟨hp, g, d, t, os⟩ := s
  have L0 : Looks M hp (typeOf (.ref e)) (.ref C) := hcls ▸ (Looks.ld he).andThen .now
  have L1 := looks_mroIn (M := M) X hm
  have L2 := looks_mroIn (M := M) X hb
  have L3 := looks_typeIn (M := M) X ht
  have L4 : Looks M hp (isInstance (.ref C') (.type "tuple")) false := L3.andThen (Looks.of_pure PySem.tc_notTuple)
  unfold isClsIn at hcl
  obtain ⟨cd, hcd⟩ := Option.isSome_iff_exists.mp hcl
  have L5 : Looks M hp (isType (.ref C')) true := by
    unfold clsIn at hcd
    split at hcd
    · rename_i ho
      simp only [isType, loadHead]
      exact (Looks.ld (X _ _ ho)).andThen .now
    · cases hcd
  unfold excMatches
  refine wpAny_bind (L4.at ?_)
  simp only [Bool.false_eq_true, if_false]
  refine wpAny_bind (wpAny_pure ?_)
  simp only [List.forIn_cons, List.forIn_nil]
  unfold isExcClass
  refine wpAny_bind (wpAny_bind (wpAny_bind (wpAny_bind (L5.at ?_))))
  rw [if_pos rfl]
  refine L2.at ?_
  refine wpAny_pure (wpAny_pure ?_)
  refine wpAny_bind (L0.at (wpAny_bind (wpAny_bind (wpAny_bind (L1.at ?_)))))
  cases b with
  | true => exact wpAny_pure (wpAny_pure (wpAny_pure hq))
  | false => exact wpAny_pure (wpAny_pure (wpAny_pure hq))

section
variable {w : World} {mean : ExcName → Option Value} {mg mb : Str → Option Value} {A₀ : Around} {E : Value → Shared → Prop} {s : Shared} {base g h₂ : Heap} {outer : List Env} {L a e C D C' : Addr} {od : Obj} {m : Str → Option Value} {name : Str} {scope : Scope} {cd : Value} {K : Frag} {p : Program} {loose : List Str}
  {x n : Str} {np pos : Pos} {b₀ : Stmt} {suite : List Stmt} {rest : List ExceptHandler} {Q : Flow → Shared → Prop}

theorem handler_test {b : Bool} {nm : Option Str} (B : Below A₀ base outer g) (F : Fr g L h₂ m) (XB : K.In base) (TB : Top p loose mean mg mb base) (R : Raised h₂ (frs (envOf name scope L a cd :: outer)) e C D od s.heap)
    (ex : nsIn K mainGlobals x = some (some (.ref C'))) (ht : typeIn K (.ref C') = some (.type "type")) (hcl : isClsIn K C' = true) (hb : mroIn K C' (.type "BaseException") = some true) (hm : mroIn K C (.ref C') = some b)
    (k : if b then codeAny (MM w) ((A₀.deeper (envOf name scope L a cd)).mark (some (.ref e))) (.handlers (.ref e) [.ExceptHandler none nm (b₀ :: suite) pos] (envOf name scope L a cd)) (fun r s₂ => match r with
          | .ok f => (match nm with
            | none => Q f s₂
            | some n => wpAny (MM w) (A₀.deeper (envOf name scope L a cd)) (do bindName (envOf name scope L a cd) n .none; unbindBehindTheSuite (envOf name scope L a cd) n pos) (fun _ s₃ => Q f s₃) E s₂)
          | .error x => cameBackBy (MM w) (A₀.deeper (envOf name scope L a cd)) (envOf name scope L a cd) E x s₂) s
        else wpAny (MM w) (A₀.deeper (envOf name scope L a cd)) (handleBy (.ref e) (envOf name scope L a cd) rest) Q E s)
    (hk : scope.kind = .function := by rfl) (hx : (envOf name scope L a cd).kindOf x = some .globalImplicit := by rfl) (hd : (x == ("__debug__" : Str)) = false := by decide) :
    wpAny (MM w) (A₀.deeper (envOf name scope L a cd)) (handleBy (.ref e) (envOf name scope L a cd) (.ExceptHandler (some (.Name x np)) nm (b₀ :: suite) pos :: rest)) Q E s := by
  obtain ⟨g', T', F', B'⟩ := raised_ground B F R
  have X' := XB.keeps B'.stays
  have P' : TopRead p loose mg mb g' := topRead_of (TB.keeps B'.stays)
  obtain ⟨oe, vs, he, hP, hvs⟩ := R.exc
  refine wpAny_handleBy_cons (codeAny_handlers_test (name_K F' X' P' ex ?_ hk hx hd)) (by intro q; cases q)
  refine matches_own (X'.keeps F'.keep) he hP.1 ht hcl hb hm ?_
  cases b with
  | true =>
    rw [if_pos rfl] at k
    refine codeAny_mono k fun r s₂ z => ?_
    cases r with
    | error x => exact z
    | ok f => cases nm <;> exact z
  | false =>
    rw [if_neg Bool.false_ne_true] at k
    exact k

theorem caught_plain (B : Below A₀ base outer g) (F : Fr g L h₂ m) (XB : K.In base) (TB : Top p loose mean mg mb base) (R : Raised h₂ (frs (envOf name scope L a cd :: outer)) e C D od s.heap)
    (k : ∀ h' g', KtsTurn (frs outer) g g' → Fr g' L h' m → Below A₀ base outer g' → K.In g' → Top p loose mean mg mb g' →
      wpAny (MM w) ((A₀.deeper (envOf name scope L a cd)).mark (some (.ref e))) (execs (b₀ :: suite) (envOf name scope L a cd)) Q E { s with heap := h' })
    (hE : PassesOwnAt (MM w) ((A₀.deeper (envOf name scope L a cd)).mark (some (.ref e))) (A₀.deeper (envOf name scope L a cd)) (envOf name scope L a cd) E) :
    codeAny (MM w) ((A₀.deeper (envOf name scope L a cd)).mark (some (.ref e))) (.handlers (.ref e) [.ExceptHandler none none (b₀ :: suite) pos] (envOf name scope L a cd)) (fun r s₂ => match r with
          | .ok f => Q f s₂
          | .error x => cameBackBy (MM w) (A₀.deeper (envOf name scope L a cd)) (envOf name scope L a cd) E x s₂) s := by
  refine codeAny_handlers_suite ?_
  refine raised_again R fun h' R' => ?_
  obtain ⟨g', T', F', B'⟩ := raised_ground B F R'
  exact wpAny_passesOwnAt hE (k h' g' T' F' B' (XB.keeps B'.stays) (TB.keeps B'.stays))

theorem caught_as (B : Below A₀ base outer g) (F : Fr g L h₂ m) (XB : K.In base) (TB : Top p loose mean mg mb base) (R : Raised h₂ (frs (envOf name scope L a cd :: outer)) e C D od s.heap)
    (k : ∀ h' g' ob vs tk, KtsTurn (frs outer) g g' → Fr g' L h' (fun y => if y = n then some (.ref e) else m y) → Below A₀ base outer g' → K.In g' → Top p loose mean mg mb g' →
      h'.get? e = some ob → ob.cls = .ref C → ob.dict = some D → ob.data = .fields vs → h'.get? D = some od →
      wpAny (MM w) ((A₀.deeper (envOf name scope L a cd)).mark (some (.ref e))) (execs (b₀ :: suite) (envOf name scope L a cd))
        (fun f s₄ => wpAny (MM w) (A₀.deeper (envOf name scope L a cd)) (do bindName (envOf name scope L a cd) n .none; unbindBehindTheSuite (envOf name scope L a cd) n pos) (fun _ s₅ => Q f s₅) E s₄) (fun _ _ => False) { s with heap := h', toks := tk })
    (hk : scope.kind = .function := by rfl) (hlo : (envOf name scope L a cd).kindOf n = some .local := by rfl) (hLD : ∀ o, h₂.get? L = some o → D ≠ L ∧ e ≠ L) :
    codeAny (MM w) ((A₀.deeper (envOf name scope L a cd)).mark (some (.ref e))) (.handlers (.ref e) [.ExceptHandler none (some n) (b₀ :: suite) pos] (envOf name scope L a cd)) (fun r s₂ => match r with
          | .ok f => wpAny (MM w) (A₀.deeper (envOf name scope L a cd)) (do bindName (envOf name scope L a cd) n .none; unbindBehindTheSuite (envOf name scope L a cd) n pos) (fun _ s₃ => Q f s₃) E s₂
          | .error x => cameBackBy (MM w) (A₀.deeper (envOf name scope L a cd)) (envOf name scope L a cd) E x s₂) s := by
  obtain ⟨oL, es, ep, hoL, _⟩ := F.ns
  obtain ⟨dL, eL⟩ := hLD _ hoL
  refine codeAny_handlers_suite_as ?_
  refine raised_again R fun h' R' => ?_
  obtain ⟨g', T', F', B'⟩ := raised_ground B F R'
  obtain ⟨oe, vs, he, hP, hvs⟩ := R'.exc
  have hD := R'.dict
  refine wpAny_storeName_local hlo F'.ns (fun h'' hn hs => ?_) (by show (scope.kind == .class || (scope.kind == .module && L != mainGlobals)) = false; rw [hk]; rfl)
  refine wpAny_mono (k h'' g' oe vs _ T' (F'.set hn hs) B' (XB.keeps B'.stays) (TB.keeps B'.stays) ((hs.2 e eL).trans he) hP.1 hP.2 hvs ((hs.2 D dL).trans hD)) (fun _ _ z => z) fun _ _ z => z.elim
end
end Mine
end

section
open PySem PySem.W PyProof.Rows PySem.Spec PySem.Calls Builtin Builtin.ObjectAttr
set_option Elab.async false
set_option maxRecDepth 100000
set_option maxHeartbeats 40000000
namespace Mine
abbrev excD (C t D : Addr) : Obj := { excObj C t with dict := some D }
theorem fillShort1 : ∀ (o : OpenLaw) (f : Params → Frag), o = Challenge.rw_no0050_01 → f = hd.heap_39 → True := by
  k_fill
  w_top off
  intros; trivial

theorem pick4 {h₀ h : Heap} {L : Addr} {a b c d : Addr × Obj} {r : List (Addr × Obj)} (N : News h₀ L h (a :: b :: c :: d :: r)) : News h₀ L h (a :: c :: r) := fun p hp => N p (by
  rcases List.mem_cons.mp hp with rfl | hp
  · exact .head _
  · rcases List.mem_cons.mp hp with rfl | hp
    · exact .tail _ (.tail _ (.head _))
    · exact .tail _ (.tail _ (.tail _ (.tail _ hp))))
theorem meta_Exception : typeOf (.type "Exception") = pure (.type "type") := by kernel_rfl
local macro_rules | `(tactic| walk_at "getMethod type:Exception") => `(tactic| (k_here; k_dflt (refine' method_type ?F ?X ?m (by decide +kernel) ?e ?h ?_; (case F => k_asm); (case X => k_asm); (case m => exact meta_Exception); (case e => k_is); (case h => k_handed))))
local macro_rules | `(tactic| walk_at "call builtin:Exception.__init__") => `(tactic| (k_here; k_dflt (refine' exc_binit ?k1 ?k2 ?k3 ?k4 ?k5 ?k6 ?_; (case k1 => k_asm); (case k2 => k_asm); (case k3 => k_asm); (case k6 => (intro t9; k_upd)); (case k4 => k_is); (case k5 => exact Nat.le_of_ble_eq_true rfl); k_whole); (intro t' h' F' N' l1; (try k_lt l1); (try dsimp only))))
local macro_rules | `(tactic| k_all) => `(tactic| assumption)
local macro_rules | `(tactic| walk_at "setAttr ref") => `(tactic| (k_here; k_dflt (refine' exc_set1 ?k1 ?k2 ?k3 ?ka ?kb ?kc ?kd ?k4 ?k5 ?k6 ?k7 ?k8 ?ke ?kf ?kg ?k9 ?_; (case k1 => k_asm); (case k2 => k_asm); (case k3 => k_asm); (case ka => k_mem); (case kb => exact rfl); (case kc => exact rfl); (case kd => exact rfl); (case k9 => k_upd); (case k4 => k_is); (case k5 => exact rfl); (case k6 => exact rfl); (case k7 => k_is); (case k8 => k_is); (case ke => k_get); (case kf => k_put); (case kg => exact Nat.le_of_ble_eq_true rfl); k_whole); (intro h' tk' F' N'; (try dsimp only))))
local macro_rules | `(tactic| walk_at "setAttr ref") => `(tactic| (k_here; k_dflt (refine' exc_set0 ?k1 ?k2 ?k3 ?k4 ?k5 ?k6 ?k7 ?k8 ?k9 ?_; (case k1 => k_asm); (case k2 => k_asm); (case k3 => k_asm); (case k9 => (intro t9; k_upd)); (case k4 => k_is); (case k5 => exact rfl); (case k6 => exact rfl); (case k7 => k_is); (case k8 => k_is); k_whole); (intro D' h' tk' F' N' l1; (try k_lt l1); (try dsimp only))))
theorem short_new {w : World} {mean : ExcName → Option Value} {mg mb : Str → Option Value}
  {dp un : Nat} {gd : Option (List Code)} {cn : Str} {cs : Scope} {a : Addr} {ccd : Value} {cl : List (Str × Addr)} {outer : List Env} {A₀ : Around} {base h₀ : Heap} {L : Addr} {m : Str → Option Value} {s : Shared} {Q E : Value → Shared → Prop}
  {news : List (Addr × Obj)} {x : Str} {xt : Tok}
  (B : Below A₀ base outer h₀) (F : Fr h₀ L s.heap m) (KX : (hd.heap_39 w.params).In h₀)
  (N : News h₀ L s.heap news)
  (T : TT mean mg mb h₀) (hk : cs.kind = .function) (hdp : dp + 2 < recursionLimit) (hun : un + 8 < cLine) 
  (hret : ∀ e t D od h' tk', Fr h₀ L h' m → News h₀ L h' ((D, od) :: (e, excD 51 t D) :: news) → @LT.lt Nat _ e D → (∀ p ∈ news, p.1 < e) → Q (.ref e) { s with heap := h', toks := tk' }) :
  wpAny (MM w) (ktrTop dp un gd cn cs L a ccd cl outer) (call (.ref 51) [.str x xt]) Q E s := by
    refine wpAny_call ?_
    k_dflt (refine' exc_make ?k1 ?k2 ?k3 ?k4 ?k5 ?k6 ?k7 ?k8 ?k9 ?_; (case k1 => k_asm); (case k2 => k_asm); (case k3 => k_asm); (case k4 => k_is); (case k5 => k_is); (case k6 => k_is); (case k7 => k_is); (case k8 => k_is); (case k9 => exact Nat.le_of_ble_eq_true rfl); k_whole)
    intro e' t' h' F' N' l1 l2 kp nw
    have hn1 : ∀ p ∈ news, p.1 ≠ e' := fun p hp => Nat.ne_of_lt (Nat.lt_trans (l1 p hp) l2)
    have hn2 : ∀ p ∈ news, p.1 < e' := fun p hp => Nat.lt_trans (l1 p hp) l2
    replace l2 := ltN l2
    k_dflt cell_enter
    k_steps
    refine' hret _ _ _ _ _ _ ?f (pick4 ?n) ?o hn2
    case n => assumption
    case f => assumption
    case o => omega

theorem qpack_new {w : World} {mean : ExcName → Option Value} {mg mb : Str → Option Value}
  {dp un : Nat} {gd : Option (List Code)} {cn : Str} {cs : Scope} {a : Addr} {ccd : Value} {cl : List (Str × Addr)} {outer : List Env} {A₀ : Around} {base h₀ : Heap} {L : Addr} {m : Str → Option Value} {s : Shared} {Q E : Value → Shared → Prop}
  {news : List (Addr × Obj)} {x : Str} {ct xt : Tok}
  (B : Below A₀ base outer h₀) (F : Fr h₀ L s.heap m) (KX : (hd.heap_39 w.params).In h₀)
  (N : News h₀ L s.heap news)
  (T : TT mean mg mb h₀) (hk : cs.kind = .function) (hdp : dp + 2 < recursionLimit) (hun : un + 8 < cLine) (hx : x.length ≤ 100)
  (hret : ∀ e t D od h' tk', Fr h₀ L h' m → News h₀ L h' ((D, od) :: (e, excD 31 t D) :: news) → @LT.lt Nat _ e D → (∀ p ∈ news, p.1 < e) → (∃ tk, lookIn (Str.ofString "code") od = some (some (.int 512 tk))) → Q (.ref e) { s with heap := h', toks := tk' }) :
  wpAny (MM w) (ktrTop dp un gd cn cs L a ccd cl outer) (call (.ref 31) [.int 512 ct, .str x xt]) Q E s := by
    refine wpAny_call ?_
    k_dflt (refine' exc_make ?k1 ?k2 ?k3 ?k4 ?k5 ?k6 ?k7 ?k8 ?k9 ?_; (case k1 => k_asm); (case k2 => k_asm); (case k3 => k_asm); (case k4 => k_is); (case k5 => k_is); (case k6 => k_is); (case k7 => k_is); (case k8 => k_is); (case k9 => exact Nat.le_of_ble_eq_true rfl); k_whole)
    intro e' t' h' F' N' l1 l2 kp nw
    have hn1 : ∀ p ∈ news, p.1 ≠ e' := fun p hp => Nat.ne_of_lt (Nat.lt_trans (l1 p hp) l2)
    have hn2 : ∀ p ∈ news, p.1 < e' := fun p hp => Nat.lt_trans (l1 p hp) l2
    replace l2 := ltN l2
    k_dflt cell_enter
    k_steps
    refine' hret _ _ _ _ _ _ ?f (pick4 ?n) ?o hn2 ?c
    case n => assumption
    case f => assumption
    case o => omega
    case c => exact ⟨ct, by rfl⟩
end Mine
end

section
set_option maxRecDepth 100000
namespace Mine
inductive GRes where
  | short
  | big
  | ok (found at' : Int)

noncomputable def more : List Int → Int → Nat → Int → GRes
  | [], _, _, _ => .short
  | b :: r, found, shift, at_ =>
    if 4611686018427387903 < found + (b % 128) * 2 ^ shift ∨ 62 < shift then .big
    else if b < 128 then .ok (found + (b % 128) * 2 ^ shift) (at_ + 1) else more r (found + (b % 128) * 2 ^ shift) (shift + 7) (at_ + 1)

noncomputable def getP (l : List Int) (at_ : Int) (bits : Nat) : GRes := match l with
  | [] => .short
  | b :: r => if b % 2 ^ bits < 2 ^ bits - 1 then .ok (b % 2 ^ bits) (at_ + 1) else more r (b % 2 ^ bits) 0 (at_ + 1)

theorem and_most {x bits : Int} (h0 : 1 ≤ bits) (h1 : bits ≤ 8) : PySem.Builtin.bitAnd x (1 * 2 ^ bits.toNat - 1) = x % 2 ^ bits.toNat := by
  have hc : bits = 1 ∨ bits = 2 ∨ bits = 3 ∨ bits = 4 ∨ bits = 5 ∨ bits = 6 ∨ bits = 7 ∨ bits = 8 := by omega
  rcases hc with rfl | rfl | rfl | rfl | rfl | rfl | rfl | rfl
  · exact PyProof.Rows.bitAnd_m1 x
  · exact PyProof.Rows.bitAnd_m2 x
  · exact PyProof.Rows.bitAnd_m3 x
  · exact PyProof.Rows.bitAnd_m4 x
  · exact PyProof.Rows.bitAnd_m5 x
  · exact PyProof.Rows.bitAnd_m6 x
  · exact PyProof.Rows.bitAnd_m7 x
  · exact PyProof.Rows.bitAnd_m8 x
theorem pow_lo (n : Nat) : (1 : Int) ≤ 2 ^ n := by
  have := Int.pow_pos (n := 2) (m := n) (by decide)
  omega
theorem pow_bits {bits : Int} (h0 : 1 ≤ bits) (h1 : bits ≤ 8) : (2 : Int) ≤ 2 ^ bits.toNat ∧ (2 : Int) ^ bits.toNat ≤ 256 := by
  have hc : bits = 1 ∨ bits = 2 ∨ bits = 3 ∨ bits = 4 ∨ bits = 5 ∨ bits = 6 ∨ bits = 7 ∨ bits = 8 := by omega
  rcases hc with rfl | rfl | rfl | rfl | rfl | rfl | rfl | rfl <;> decide
theorem and127 (x : Int) : PySem.Builtin.bitAnd x 127 = x % 128 := PyProof.Rows.bitAnd_m7 x
theorem and127_small (x : Int) : (PySem.Builtin.bitAnd x 127).natAbs < 2 ^ 64 := by
  rw [and127]
  omega
theorem drop_at {ks : List Int} {a : Int} (h0 : 0 ≤ a) (h : a < ks.length) : ks.drop a.toNat = ks.getD a.toNat 0 :: ks.drop (a + 1).toNat := by
  have h1 : a.toNat < ks.length := by omega
  rw [List.drop_eq_getElem_cons h1, show (a + 1).toNat = a.toNat + 1 by omega]
  simp [List.getD, h1]
theorem more_end {ks : List Int} {a f : Int} {sh : Nat} (h : (ks.length : Int) ≤ a) : more (ks.drop a.toNat) f sh a = .short := by
  rw [List.drop_eq_nil_of_le (by omega)]
  rfl
theorem more_step {ks : List Int} {a f : Int} {sh : Nat} (h0 : 0 ≤ a) (h : a < ks.length) :
    more (ks.drop a.toNat) f sh a = if 4611686018427387903 < f + (ks.getD a.toNat 0 % 128) * 2 ^ sh ∨ 62 < sh then .big
      else if ks.getD a.toNat 0 < 128 then .ok (f + (ks.getD a.toNat 0 % 128) * 2 ^ sh) (a + 1) else more (ks.drop (a + 1).toNat) (f + (ks.getD a.toNat 0 % 128) * 2 ^ sh) (sh + 7) (a + 1) := by
  rw [drop_at h0 h]
  rfl
theorem getP_end {ks : List Int} {a : Int} {n : Nat} (h : (ks.length : Int) ≤ a) : getP (ks.drop a.toNat) a n = .short := by
  rw [List.drop_eq_nil_of_le (by omega)]
  rfl
theorem getP_step {ks : List Int} {a : Int} {n : Nat} (h0 : 0 ≤ a) (h : a < ks.length) :
    getP (ks.drop a.toNat) a n = if ks.getD a.toNat 0 % 2 ^ n < 2 ^ n - 1 then .ok (ks.getD a.toNat 0 % 2 ^ n) (a + 1) else more (ks.drop (a + 1).toNat) (ks.getD a.toNat 0 % 2 ^ n) 0 (a + 1) := by
  rw [drop_at h0 h]
  rfl
theorem add_lo {f x : Int} {sh : Nat} (h0 : 0 ≤ f) : 0 ≤ f + (x % 128) * 2 ^ sh := by
  have h1 : 0 ≤ x % 128 := Int.emod_nonneg _ (by decide)
  have h2 := Int.mul_nonneg h1 (Int.le_of_lt (Int.pow_pos (n := 2) (m := sh) (by decide)))
  omega
theorem more_bounds : ∀ (l : List Int) {f : Int} {sh : Nat} {a f' a' : Int}, 0 ≤ f → more l f sh a = .ok f' a' → 0 ≤ f' ∧ f' ≤ 4611686018427387903 ∧ a < a' ∧ a' ≤ a + l.length
  | [], _, _, _, _, _, _, h => by cases h
  | b :: r, f, sh, a, f', a', h0, h => by
    have h1 := add_lo (x := b) (sh := sh) h0
    unfold more at h
    split at h
    · cases h
    · rename_i hn
      split at h
      · cases h
        refine ⟨h1, ?_, by omega, by simp; omega⟩
        omega
      · have := more_bounds r h1 h
        simp only [List.length_cons]
        omega
theorem getP_bounds {l : List Int} {a f a' : Int} {n : Nat} (hn : n ≤ 8) (h : getP l a n = .ok f a') : 0 ≤ f ∧ f ≤ 4611686018427387903 ∧ a < a' ∧ a' ≤ a + l.length := by
  unfold getP at h
  split at h
  · cases h
  · rename_i b r
    have hp := pow_lo n
    have hq : (2 : Int) ^ n ≤ 2 ^ 8 := by
      have : (2 : Nat) ^ n ≤ 2 ^ 8 := Nat.pow_le_pow_right (by decide) hn
      exact_mod_cast this
    have h1 := Int.emod_nonneg b (b := 2 ^ n) (by omega)
    have h2 := Int.emod_lt_of_pos b (b := 2 ^ n) (by omega)
    split at h
    · cases h
      refine ⟨h1, ?_, by omega, by simp; omega⟩
      have : (2 : Int) ^ 8 = 256 := by decide
      omega
    · have := more_bounds r h1 h
      simp only [List.length_cons]
      omega

inductive TRes where
  | short
  | big
  | ok (txt : List Int) (at' : Int)
noncomputable def getT (ks : List Int) (at_ : Int) (bits : Nat) : TRes :=
  if at_ < ks.length ∧ (ks.getD at_.toNat 0 / 2 ^ bits) % 2 = 1 then .big else match getP (ks.drop at_.toNat) at_ bits with
  | .short => .short
  | .big => .big
  | .ok f a' => if (ks.length : Int) < a' + f then .short else .ok ((ks.drop a'.toNat).take f.toNat) (a' + f)
end Mine
end

section
open PySem PySem.W PyProof.Rows PySem.Spec PySem.Calls
set_option Elab.async false
set_option maxRecDepth 100000
set_option maxHeartbeats 40000000
namespace Mine
theorem fillGet1 : ∀ (o : OpenLaw) (f : Params → Frag), o = Challenge.rw_no0050_01 → f = hd.heap_39 → True := by
  k_fill
  w_top off
  intros; trivial
theorem Raise_ownX {prog : Program} {w : World} {A : Around} {E : Value → Shared → Prop} {s : Shared} {K : Frag} {h : Heap} {ex : Expr} {env : Env} {pos : Pos} {Q : Flow → Shared → Prop} (_X : K.In h) (hh : A.handled = none)
    (h : wpAny (model prog w) A (eval ex env) (OwnRaise K E) E s) : wpAny (model prog w) A (exec (.Raise (some ex) none pos) env) Q E s := Raise_own hh h
local macro_rules | `(tactic| walk_at "exec Raise some none") => `(tactic| (k_here; k_dflt (refine' Raise_ownX ?X ?hh ?_; (case X => k_asm); (case hh => exact rfl); k_whole)))
local macro_rules | `(tactic| walk_at "call ref") => `(tactic| (k_here; k_dflt (first
  | (refine' short_new ?B ?F ?K ?N ?T ?hk ?d ?u ?_; (case B => k_asm); (case F => k_asm); (case K => k_asm); (case N => k_asm); (case T => k_asm); (case hk => exact rfl); (case d => ktr_room); (case u => ktr_units); k_whole)
  | (refine' qpack_new ?B ?F ?K ?N ?T ?hk ?d ?u (by decide) ?_; (case B => k_asm); (case F => k_asm); (case K => k_asm); (case N => k_asm); (case T => k_asm); (case hk => exact rfl); (case d => ktr_room); (case u => ktr_units); k_whole)); (intro e' t' D' od' h' tk' F' N' l1 l2)))

theorem own_raise {K : Frag} {g : Heap} {L : Addr} {m : Str → Option Value} {news : List (Addr × Obj)} {s₁ : Shared} {E : Value → Shared → Prop} {e C D t : Addr} (X : K.In g) (F : Fr g L s₁.heap m) (N : News g L s₁.heap news) (he : (e, excD C t D) ∈ news)
    (hm : mroIn K C (.type "BaseException") = some true) (ht : typeIn K (.ref C) = some (.type "type")) (hE : E (.ref e) s₁) : OwnRaise K E (.ref e) s₁ :=
  ⟨e, _, _, C, X.keeps F.keep, hm, ht, rfl, N.get he, rfl, rfl, rfl, hE⟩
local macro_rules | `(tactic| walk_at "OwnRaise") => `(tactic| (k_dflt (refine' own_raise ?X ?F ?N ?he ?hm ?ht ?_; (case X => k_asm); (case F => k_asm); (case N => k_asm); (case he => k_mem); (case hm => k_is); (case ht => k_is); k_whole)))
local macro_rules | `(tactic| walk_at "leaving ref") => `(tactic| (k_here; k_dflt (refine' raised_first ?B ?F ?N ?he ?hD ?ne ?_; (case B => k_asm); (case F => k_asm); (case N => k_asm); (case he => k_mem); (case hD => k_mem); (case ne => (refine neN ?_; omega)); k_whole); (intro h' R')))
local macro_rules | `(tactic| walk_at "binaryOp LShift int int") => `(tactic| (k_here; (with_reducible refine lshift_int_small ?kb1 ?kb2 ?kb3 ?_); (case kb1 => omega); (case kb2 => omega); (case kb3 => first | decide | exact and127_small _)))
local macro_rules | `(tactic| walk_at "KswEnd") => `(tactic| (refine stop_at ?_))
def Stop (P : Prop) : Prop := P
theorem stop_at {P : Prop} (h : Stop P) : P := h
local macro_rules | `(tactic| walk_at "exec While Constant cons nil") => `(tactic| (refine stop_at ?_))

theorem get_tells {w : World} {mean : ExcName → Option Value} {mg mb : Str → Option Value}
  {dp un : Nat} {gd : Option (List Code)} {env : Env} {outer : List Env} {base : Heap} {s : Shared} {Q E : Value → Shared → Prop}
  {data : Array UInt8} {ks : List Int} {dt att bt : Tok} {at_ bits : Int}
  (C : Ctx w mean mg mb base s.heap (env :: outer)) (hdp : dp + 4 < recursionLimit) (hun : un + 32 < cLine)
  (hD : KBw.bInts data = ks) (hsz : ks.length ≤ 1000) (hat0 : 0 ≤ at_) (hat1 : at_ < 1000) (hb0 : 1 ≤ bits) (hb1 : bits ≤ 8)
  (hret : ∀ f a', getP (ks.drop at_.toNat) at_ bits.toNat = .ok f a' → ∀ D t1 t2 h' tk', Keeps s.heap h' → s.heap.get? D = none → h'.get? D = some (tupObj [.int f t1, .int a' t2]) → Q (.ref D) { s with heap := h', toks := tk' })
  (hshort : getP (ks.drop at_.toNat) at_ bits.toNat = .short → ∀ e D od h' tk', Raised s.heap (frs (env :: outer)) e 51 D od h' → E (.ref e) { s with heap := h', toks := tk' })
  (hbig : getP (ks.drop at_.toNat) at_ bits.toNat = .big → ∀ e D od h' tk' tk2, Raised s.heap (frs (env :: outer)) e 31 D od h' → lookIn (Str.ofString "code") od = some (some (.int 512 tk2)) → E (.ref e) { s with heap := h', toks := tk' })
   :
  wpAny (MM w) (AR dp un gd env outer) (call (.ref 68) [.bytes data dt, .int at_ att, .int bits bt]) Q E s := by
    have hp2 := pow_bits hb0 hb1
    refine wpAny_call ?_
    k_dflt (refine' enterP ?k1 ?kA ?k6 ?k7 ?k8 ?k9 ?kB ?_ ?c2 ?c3 ?c4 ?c5; (case kA => exact rfl); (case k1 => assumption); (case k6 => k_is); (case k7 => k_is); (case k8 => ktr_room); (case k9 => exact BindsTo.of_eq rfl); (case c5 => decide); (case kB => exact locs rfl); (case c2 => exact rfl); (case c3 => exact rfl); (case c4 => exact rfl); k_whole; intro g' L' h' hg' F' N' B' X' T'; (try dsimp only); (try k_fold))
    k_steps
    · -- no octet
      rename (ks.length : Int) ≤ at_ => ha
      rename Raised _ _ _ _ _ _ _ => RR
      exact hshort (getP_end ha) _ _ _ _ _ (hg' ▸ RR)
    · -- the first octet alone
      rename Builtin.bitAnd _ _ < _ => hlt
      rename ¬ ((ks.length : Int) ≤ at_) => ha
      rename Fr _ _ _ _ => FF
      rename News _ _ _ _ => NN
      have hx := and_most (x := ks.getD at_.toNat 0) hb0 hb1
      rw [Int.one_mul] at hx
      simp only [Int.one_mul, hx] at hlt NN
      have hr := getP_step (ks := ks) (a := at_) (n := bits.toNat) hat0 (by omega)
      rw [if_pos hlt] at hr
      exact hret _ _ hr _ _ _ _ _ (fun b o hb => FF.keep b o (hg' ▸ hb)) (hg' ▸ NN.fresh (.head _)) (NN.get (.head _))
    · unfold Stop
      rename Fr _ _ _ _ => FW
      rename ¬ (_ < _) => hlt
      rename ¬ ((ks.length : Int) ≤ at_) => ha
      have hx := and_most (x := ks.getD at_.toNat 0) hb0 hb1
      have hr := getP_step (ks := ks) (a := at_) (n := bits.toNat) hat0 (by omega)
      rw [hx] at hlt
      simp only [Int.one_mul] at hlt
      rw [if_neg hlt] at hr
      refine' ksw_while (σ := Int × Int × Int × Tok × Tok × Tok) (fun _ => []) (fun c => [(Str.ofString "found", .int c.1 c.2.2.2.1), (Str.ofString "shift", .int c.2.1 c.2.2.2.2.1), (Str.ofString "at", .int c.2.2.1 c.2.2.2.2.2)]) (fun _ => True) [Str.ofString "found", Str.ofString "shift", Str.ofString "at"]
         (fun c => 0 ≤ c.1 ∧ c.1 ≤ 4611686018427387903 ∧ 0 ≤ c.2.1 ∧ c.2.1 ≤ 69 ∧ 0 ≤ c.2.2.1 ∧ c.2.2.1 ≤ ks.length ∧ more (ks.drop c.2.2.1.toNat) c.1 c.2.1.toNat c.2.2.1 = getP (ks.drop at_.toNat) at_ bits.toNat)
         (fun c => (ks.length - c.2.2.1).toNat) (Builtin.bitAnd (ks.getD at_.toNat 0) (1 * 2 ^ bits.toNat - 1), 0, at_ + 1, _, _, _) FW (fun _ h => nomatch h) trivial ?kk ?kp ?turn
      case kk =>
        intro p hp
        simp only [List.mem_cons, List.not_mem_nil, or_false] at hp
        rcases hp with rfl | rfl | rfl <;> rfl
      case kp =>
        dsimp only
        rw [hx, hr]
        have h1 := Int.emod_nonneg (ks.getD at_.toNat 0) (b := 2 ^ bits.toNat) (by omega)
        have h2 := Int.emod_lt_of_pos (ks.getD at_.toNat 0) (b := 2 ^ bits.toNat) (by omega)
        exact ⟨h1, by omega, by omega, by omega, by omega, by omega, rfl⟩
      case turn =>
        rintro ⟨found, shift, at1, t1, t2, t3⟩ u h tk hf hp FT NT
        dsimp only at hp FT NT
        obtain ⟨p0, p1, p2, p3, p4, p5, p6⟩ := hp
        clear FW hlt hx hr ha
        k_steps
        · rename (ks.length : Int) ≤ at1 => ha
          rename Raised _ _ _ _ _ _ _ => RR
          exact hshort (p6.symm.trans (more_end ha)) _ _ _ _ _ (hg' ▸ RR)
        · rename 4611686018427387903 < found + _ => hbg
          rename ¬ ((ks.length : Int) ≤ at1) => ha
          rename Raised _ _ _ _ _ _ _ => RR
          rename ∃ tk, lookIn _ _ = _ => hlk
          obtain ⟨tk2, hlk⟩ := hlk
          rw [more_step p4 (by omega), if_pos (.inl (by rw [← and127]; exact hbg))] at p6
          exact hbig p6.symm _ _ _ _ _ _ (hg' ▸ RR) hlk
        · rename 62 < shift => hbg
          rename ¬ ((ks.length : Int) ≤ at1) => ha
          rename Raised _ _ _ _ _ _ _ => RR
          rename ∃ tk, lookIn _ _ = _ => hlk
          obtain ⟨tk2, hlk⟩ := hlk
          rw [more_step p4 (by omega), if_pos (.inr (by omega))] at p6
          exact hbig p6.symm _ _ _ _ _ _ (hg' ▸ RR) hlk
        · rename _ < (128 : Int) => hlo
          rename ¬ (62 < shift) => hs
          rename ¬ (4611686018427387903 < _) => hg
          rename ¬ ((ks.length : Int) ≤ at1) => ha
          rename Fr _ _ _ _ => FF
          rename News _ _ _ _ => NN
          rw [show at1 + 1 - 1 = at1 by omega] at hlo
          rw [and127] at hg
          simp only [and127] at NN
          rw [more_step p4 (by omega), if_neg (by rintro (h1 | h1); exact hg h1; omega), if_pos hlo] at p6
          exact hret _ _ p6.symm _ _ _ _ _ (fun b o hb => FF.keep b o (hg' ▸ hb)) (hg' ▸ NN.fresh (.head _)) (NN.get (.head _))
        · try unfold Stop
          rename ¬ (_ < (128 : Int)) => hlo
          rename ¬ (62 < shift) => hs
          rename ¬ (4611686018427387903 < _) => hg
          rename ¬ ((ks.length : Int) ≤ at1) => ha
          rename Fr _ _ _ _ => FF
          rename News _ _ _ _ => NN
          rw [show at1 + 1 - 1 = at1 by omega] at hlo
          have hg2 := hg
          rw [and127] at hg2
          rw [more_step p4 (by omega), if_neg (by rintro (h1 | h1); exact hg2 h1; omega), if_neg hlo] at p6
          refine' ksw_end (found + Builtin.bitAnd (ks.getD at1.toNat 0) 127 * 2 ^ shift.toNat, shift + 7, at1 + 1, _, _, _) FF NN (fun _ h => nomatch h) trivial ?hk ?hz ?hp ?hm
          case hk =>
            intro p hp
            simp only [List.mem_cons, List.not_mem_nil, or_false] at hp
            rcases hp with rfl | rfl | rfl <;> rfl
          case hz =>
            intro z h2 h3
            simp only [List.forall_mem_cons, List.not_mem_nil, false_implies, implies_true, and_true, ne_eq] at h2
            simp [kstB, h2]
          case hp =>
            dsimp only
            refine ⟨?_, by omega, by omega, by omega, by omega, by omega, ?_⟩
            · rw [and127]; exact add_lo p0
            · rw [and127, show (shift + 7).toNat = shift.toNat + 7 by omega]; exact p6
          case hm => dsimp only; omega
end Mine
end

section
open PySem PySem.W PyProof.Rows PySem.Spec PySem.Calls
set_option Elab.async false
set_option maxRecDepth 100000
set_option maxHeartbeats 40000000
namespace Mine
section
variable {w : World} {mean : ExcName → Option Value} {mg mb : Str → Option Value} {A : Around} {base g h h' : Heap} {env : Env} {outer : List Env} {L a D : Addr} {m : Str → Option Value} {name : Str} {scope : Scope} {cd : Value} {news : List (Addr × Obj)} {o : Obj}

theorem ctx_push (C : Ctx w mean mg mb base g outer) (B : Below A base outer g) (F : Fr g L h m) (hf : env.frame = some L) (hk : env.scope.kind = .function) : Ctx w mean mg mb base h (env :: outer) :=
  ⟨fun b o e => F.keep b o (C.stays b o e), Nat.le_trans C.size (Nat.le_trans F.above (Nat.le_of_lt F.ns.lt)), (pushX B F hf hk).frames, C.K, C.T⟩
theorem ctx_keeps {l : List Env} (C : Ctx w mean mg mb base h l) (k : Keeps h h') (hz : h.objs.size ≤ h'.objs.size) : Ctx w mean mg mb base h' l :=
  ⟨fun b o e => k b o (C.stays b o e), Nat.le_trans C.size hz, C.frames.of_keeps fun b o e _ => ⟨o, k b o e, rfl⟩, C.K, C.T⟩
theorem news_in (F : Fr g L h m) (N : News g L h news) (k : Keeps h h') (hD : h.get? D = none) (ho : h'.get? D = some o) : News g L h' ((D, o) :: news) := fun p hp => by
  rcases List.mem_cons.mp hp with rfl | hp
  · refine ⟨ho, fun q => ?_, kts_none F.keep hD⟩
    obtain ⟨oL, _, _, hL, _⟩ := F.ns
    dsimp only at q
    rw [← q, hD] at hL
    cases hL
  · exact ⟨k _ _ (N p hp).1, (N p hp).2⟩
theorem news_grow (N : News g L h news) (k : Keeps h h') : News g L h' news := fun p hp => ⟨k _ _ (N p hp).1, (N p hp).2⟩
end

theorem get_use {w : World} {mean : ExcName → Option Value} {mg mb : Str → Option Value}
  {dp un : Nat} {gd : Option (List Code)} {env : Env} {outer : List Env} {base g : Heap} {L : Addr} {m : Str → Option Value} {news : List (Addr × Obj)} {s : Shared} {Q E : Value → Shared → Prop} {A₀ : Around}
  {data : Array UInt8} {ks : List Int} {dt att bt : Tok} {at_ bits : Int}
  (C : Ctx w mean mg mb base g outer) (B : Below A₀ base outer g) (F : Fr g L s.heap m) (N : News g L s.heap news) (hf : env.frame = some L) (hk : env.scope.kind = .function) (hdp : dp + 4 < recursionLimit) (hun : un + 32 < cLine)
  (hD : KBw.bInts data = ks) (hsz : ks.length ≤ 1000) (hat0 : 0 ≤ at_) (hat1 : at_ < 1000) (hb0 : 1 ≤ bits) (hb1 : bits ≤ 8)
  (hret : ∀ f a', getP (ks.drop at_.toNat) at_ bits.toNat = .ok f a' → ∀ D t1 t2 h' tk', Fr g L h' m → News g L h' ((D, tupObj [.int f t1, .int a' t2]) :: news) → Q (.ref D) { s with heap := h', toks := tk' })
  (hshort : getP (ks.drop at_.toNat) at_ bits.toNat = .short → ∀ e D od h' tk', Raised s.heap (frs (env :: outer)) e 51 D od h' → E (.ref e) { s with heap := h', toks := tk' })
  (hbig : getP (ks.drop at_.toNat) at_ bits.toNat = .big → ∀ e D od h' tk' tk2, Raised s.heap (frs (env :: outer)) e 31 D od h' → lookIn (Str.ofString "code") od = some (some (.int 512 tk2)) → E (.ref e) { s with heap := h', toks := tk' })
   :
  wpAny (MM w) (AR dp un gd env outer) (call (.ref 68) [.bytes data dt, .int at_ att, .int bits bt]) Q E s :=
  get_tells (ctx_push C B F hf hk) hdp hun hD hsz hat0 hat1 hb0 hb1 (fun f a' e D t1 t2 h' tk' k hn ho => hret f a' e D t1 t2 h' tk' (F.keeps k) (news_in F N k hn ho)) hshort hbig
end Mine
end

section
open PySem PySem.W PyProof.Rows PySem.Spec PySem.Calls Builtin.ObjectAttr
set_option Elab.async false
set_option maxRecDepth 100000
set_option maxHeartbeats 40000000
namespace Mine
theorem fillRead1 : ∀ (o : OpenLaw) (f : Params → Frag), o = Challenge.rw_no0050_01 → f = hd.heap_39 → True := by
  k_fill
  w_top off
  intros; trivial
def Turn (fs : List Addr) (g h : Heap) : Prop := ∃ g₁, KtsTurn fs g g₁ ∧ Keeps g₁ h ∧ g₁.objs.size ≤ h.objs.size
local macro_rules | `(tactic| walk_at "call ref") => `(tactic| (k_here; k_dflt (refine' get_use ?C ?B ?F ?N ?hf ?hk ?d ?u ?hD ?z ?a0 ?a1 ?b0 ?b1 ?_ ?_ ?_; (case C => k_asm); (case B => k_asm); (case F => k_asm); (case N => k_asm); (case hf => exact rfl); (case hk => exact rfl); (case d => ktr_room); (case u => ktr_units); (case hD => k_asm); (case z => omega); (case a0 => omega); (case a1 => omega); (case b0 => omega); (case b1 => omega)); (first | intro f9 a9 hr9 D' t1 t2 h' tk' F' N' | intro hr9 e' D' od' h' tk' R' | intro hr9 e' D' od' h' tk' tk2 R' hl')))
local macro_rules | `(tactic| walk_at "noteFrame ref") => `(tactic| (refine stop_at ?_))
theorem turn_of {fs : List Addr} {g g₁ h : Heap} {L : Addr} {m : Str → Option Value} (T : KtsTurn fs g g₁) (F : Fr g₁ L h m) : Turn fs g h := ⟨g₁, T, F.keep, Nat.le_trans F.above (Nat.le_of_lt F.ns.lt)⟩
theorem raised_ne {G h : Heap} {fs : List Addr} {e C D : Addr} {od : Obj} (R : Raised G fs e C D od h) {L : Addr} {o : Obj} (ho : G.get? L = some o) : D ≠ L ∧ e ≠ L := by
  obtain ⟨H, fs', _, _, _, he, _, _, _, hDn, _⟩ := R
  exact ⟨fun q => (by rw [q, ho] at hDn; cases hDn), fun q => (by rw [q, ho] at he; cases he)⟩

theorem read_tells {w : World} {mean : ExcName → Option Value} {mg mb : Str → Option Value}
  {dp un : Nat} {gd : Option (List Code)} {env : Env} {outer : List Env} {base : Heap} {s : Shared} {Q E : Value → Shared → Prop}
  {data : Array UInt8} {ks : List Int} {dt att bt : Tok} {at_ bits : Int}
  (C : Ctx w mean mg mb base s.heap (env :: outer)) (hdp : dp + 6 < recursionLimit) (hun : un + 64 < cLine)
  (hD : KBw.bInts data = ks) (hsz : ks.length ≤ 1000) (hat0 : 0 ≤ at_) (hat1 : at_ < 1000) (hb0 : 1 ≤ bits) (hb1 : bits ≤ 8)
  (hret : ∀ f a', getP (ks.drop at_.toNat) at_ bits.toNat = .ok f a' → ∀ D t1 t2 h' tk', Keeps s.heap h' → s.heap.get? D = none → h'.get? D = some (tupObj [.int f t1, .int a' t2]) → Q (.ref D) { s with heap := h', toks := tk' })
  (hshort : getP (ks.drop at_.toNat) at_ bits.toNat = .short → ∀ t h' tk', Turn (frs (env :: outer)) s.heap h' → Q (.str (Str.ofString "short") t) { s with heap := h', toks := tk' })
  (hbig : getP (ks.drop at_.toNat) at_ bits.toNat = .big → ∀ t h' tk', Turn (frs (env :: outer)) s.heap h' → Q (.int 512 t) { s with heap := h', toks := tk' })
   :
  wpAny (MM w) (AR dp un gd env outer) (call (.ref 110) [.bytes data dt, .int at_ att, .int bits bt]) Q E s := by
    refine wpAny_call ?_
    k_dflt (refine' enterP ?k1 ?kA ?k6 ?k7 ?k8 ?k9 ?kB ?_ ?c2 ?c3 ?c4 ?c5; (case kA => exact rfl); (case k1 => assumption); (case k6 => k_is); (case k7 => k_is); (case k8 => ktr_room); (case k9 => exact BindsTo.of_eq rfl); (case c5 => decide); (case kB => exact locs rfl); (case c2 => exact rfl); (case c3 => exact rfl); (case c4 => exact rfl); k_whole; intro g' L' h' hg' F' N' B' X' T'; (try dsimp only); (try k_fold))
    have C' : Ctx w mean mg mb base g' (env :: outer) := hg' ▸ C
    k_steps
    · rename getP _ _ _ = _ => hr
      rename Fr _ _ _ _ => FF
      rename News _ _ _ _ => NN
      exact hret _ _ hr _ _ _ _ _ (fun b o hb => FF.keep b o (hg' ▸ hb)) (hg' ▸ NN.fresh (.head _)) (NN.get (.head _))
    · rename getP _ _ _ = _ => hr
      rename Raised _ _ _ _ _ _ _ => RR
      unfold Stop
      refine raised_lands B' F' RR (fun h' R' => ?_)
      refine handler_test (C' := 51) (b := true) B' F' C'.K C'.T R' (by k_is) (by k_is) (by k_is) (by k_is) (by k_is) ?_
      rw [if_pos rfl]
      refine caught_plain B' F' C'.K C'.T R' (fun h2 g2 T2 F2 B2 X2 P2 => ?_) (by passes_own)
      k_steps
      exact hshort hr _ _ _ (turn_of (hg' ▸ T2) F2)
    · rename getP _ _ _ = _ => hr
      rename Raised _ _ _ _ _ _ _ => RR
      unfold Stop
      refine raised_lands B' F' RR (fun h' R' => ?_)
      refine handler_test (C' := 51) (b := false) B' F' C'.K C'.T R' (by k_is) (by k_is) (by k_is) (by k_is) (by k_is) ?_
      rw [if_neg Bool.false_ne_true]
      refine handler_test (C' := 31) (b := true) B' F' C'.K C'.T R' (by k_is) (by k_is) (by k_is) (by k_is) (by k_is) ?_
      rw [if_pos rfl]
      refine caught_as B' F' C'.K C'.T R' (fun h2 g2 ob vs tk T2 F2 B2 X2 P2 he hc hd hv hD => ?_) rfl rfl (fun o ho => raised_ne R' ho)
      rename lookIn _ _ = _ => hlk
      k_steps
      refine exc_get (C := 31) (X2.keeps F2.keep) ⟨he, hc, by unfold notCls; rw [hv], by rw [hd]; exact hD⟩ (by k_is) (by k_is) (by k_is) (findObj_own (by k_is) (by k_is) rfl hlk) rfl ?_
      refine name_goes_here F2 (fun h3 v3 F3 => ?_)
      k_steps
      exact hbig hr _ _ _ (turn_of (hg' ▸ T2) F3)
end Mine
end

section
open PySem PySem.W PyProof.Rows PySem.Spec PySem.Calls
set_option Elab.async false
set_option maxRecDepth 100000
set_option maxHeartbeats 40000000
namespace Mine
section
variable {prog : Program} {w : World} {A : Around} {E : Value → Shared → Prop} {s : Shared}
theorem look_bytes_bytes : typeLookup (.type "bytes") "__bytes__" = pure (some (.builtin "bytes.__bytes__")) := by rw [typeLookup_type, builtinLookup_eq_fast]; kernel_rfl

theorem bs_new {b : Array UInt8} {t : Tok} {Q : Value → Shared → Prop} (hQ : Q (.bytes b t) s) : codeAny (model prog w) A (.call (.builtin "bytes.__new__") ⟨[.type "bytes", .bytes b t], []⟩) (wants Q E) s := by
  refine codeAny_of_tree ?_
  show wpAny _ A.in1 (do checkBuiltinCall "bytes.__new__" ⟨[.type "bytes", .bytes b t], []⟩; again (.builtin "bytes.__new__" ⟨[.type "bytes", .bytes b t], []⟩)) _ _ s
  refine wpAny_bind (wpAny_of_eq (PySem.F.bm_newCall _) (wpAny_pure ⟨plainId_quiet PySem.F.bm_plain _, codeAny_builtin PySem.F.bm_entry ?_⟩))
  rw [Around.under_plainId PySem.F.bm_plain _]
  unfold Builtin.«bytes.__new__»
  refine wpAny_bind (wpAny_of_eq (a := true) rfl ?_)
  refine bm_if_false rfl ?_
  refine wpAny_bind (wpAny_of_eq PySem.F.bm_sub ?_)
  refine bm_if_false rfl ?_
  refine wpAny_bind (wpAny_of_eq (PySem.F.bm_bind _) ?_)
  refine wpAny_bind (wpAny_of_eq (a := ()) rfl ?_)
  refine wpAny_bind (wpAny_of_eq (a := ()) rfl ?_)
  refine bm_if_false rfl ?_
  refine wpAny_bind (wpAny_of_eq (KBy.special_eq look_bytes_bytes) ?_)
  refine wpAny_bind (wpAny_rule ?_)
  refine wpAny_bind (wpAny_of_eq (a := .type "bytes") rfl ?_)
  exact wpAny_pure hQ

theorem bytes_same {b : Array UInt8} {t : Tok} {Q : Value → Shared → Prop} (hQ : Q (.bytes b t) s) : wpAny (model prog w) A (call (.type "bytes") [.bytes b t]) Q E s := by
  refine callType_codes (Q₁ := fun obj s₁ => s₁.TypeIs obj "bytes" ∧ Q obj s₁) PySem.F.bm_called (PySem.F.bm_typeCall _) PySem.F.entry_object_init (bs_new ⟨PySem.W.typeIs_bytes _ _ _, hQ⟩) fun obj s₁ h₁ => ?_
  exact ⟨h₁.1, PySem.F.args_object_init_2 obj _, object_init_meets PySem.F.bm_called.init.lookup PySem.F.bm_called.made (by decide) prog w A.in1 _ s₁ ⟨h₁.1, rfl, h₁.2⟩⟩
end
end Mine
end

section
open PySem PySem.W PyProof.Rows PySem.Spec PySem.Calls
set_option Elab.async false
set_option maxRecDepth 100000
set_option maxHeartbeats 40000000
namespace Mine
theorem fillText1 : ∀ (o : OpenLaw) (f : Params → Frag), o = Challenge.rw_no0050_01 → f = hd.heap_39 → True := by
  k_fill
  w_top off
  intros; trivial
local macro_rules | `(tactic| walk_at "exec Raise some none") => `(tactic| (k_here; k_dflt (refine' Raise_ownX ?X ?hh ?_; (case X => k_asm); (case hh => exact rfl); k_whole)))
local macro_rules | `(tactic| walk_at "call ref") => `(tactic| (k_here; k_dflt (first
  | (refine' short_new ?B ?F ?K ?N ?T ?hk ?d ?u ?_; (case B => k_asm); (case F => k_asm); (case K => k_asm); (case N => k_asm); (case T => k_asm); (case hk => exact rfl); (case d => ktr_room); (case u => ktr_units); k_whole)
  | (refine' qpack_new ?B ?F ?K ?N ?T ?hk ?d ?u (by decide) ?_; (case B => k_asm); (case F => k_asm); (case K => k_asm); (case N => k_asm); (case T => k_asm); (case hk => exact rfl); (case d => ktr_room); (case u => ktr_units); k_whole)); (intro e' t' D' od' h' tk' F' N' l1 l2)))
local macro_rules | `(tactic| walk_at "call ref") => `(tactic| (k_here; k_dflt (refine' get_use ?C ?B ?F ?N ?hf ?hk ?d ?u ?hD ?z ?a0 ?a1 ?b0 ?b1 ?_ ?_ ?_; (case C => k_asm); (case B => k_asm); (case F => k_asm); (case N => k_asm); (case hf => exact rfl); (case hk => exact rfl); (case d => ktr_room); (case u => ktr_units); (case hD => k_asm); (case z => omega); (case a0 => omega); (case a1 => omega); (case b0 => omega); (case b1 => omega)); (first | (intro f9 a9 hr9 D' t1 t2 h' tk' F' N'; have hb9 := getP_bounds (by omega) hr9; (simp only [List.length_drop] at hb9)) | intro hr9 e' D' od' h' tk' R' | intro hr9 e' D' od' h' tk' tk2 R' hl')))
local macro_rules | `(tactic| walk_at "OwnRaise") => `(tactic| (k_dflt (refine' own_raise ?X ?F ?N ?he ?hm ?ht ?_; (case X => k_asm); (case F => k_asm); (case N => k_asm); (case he => k_mem); (case hm => k_is); (case ht => k_is); k_whole)))
local macro_rules | `(tactic| walk_at "leaving ref") => `(tactic| (k_here; k_dflt (first
  | (refine' raised_first ?B ?F ?N ?he ?hD ?ne ?_; (case B => k_asm); (case F => k_asm); (case N => k_asm); (case he => k_mem); (case hD => k_mem); (case ne => (refine neN ?_; omega)); k_whole)
  | (refine' raised_next ?B ?F ?R ?_; (case R => assumption); (case F => assumption); (case B => k_asm); k_whole)); (intro h' R')))

local macro_rules | `(tactic| walk_at "call type:bytes") => `(tactic| (k_here; (with_reducible show wpAny _ _ (call (Value.type "bytes") [Value.bytes _ _]) _ _ _); (refine bytes_same ?_)))
theorem clip_int {n : Nat} {a : Int} (h : 0 ≤ a) : clipAt n a = min a.toNat n := by
  obtain ⟨k, rfl⟩ := Int.eq_ofNat_of_zero_le h
  exact clipAt_nat n k
theorem slice_eq {ks : List Int} {a f : Int} (ha : 0 ≤ a) (hf : 0 ≤ f) (hl : ¬ (ks.length : Int) < a + f) :
    List.take (clipAt ks.length (a + f) - clipAt ks.length a) (List.drop (clipAt ks.length a) ks) = (ks.drop a.toNat).take f.toNat := by
  rw [clip_int (by omega), clip_int ha, Nat.min_eq_left (by omega), Nat.min_eq_left (by omega), show (a + f).toNat - a.toNat = f.toNat by omega]
theorem huff {x bits : Int} (h : 0 ≤ bits) : Builtin.bitAnd (Int.fdiv x (2 ^ bits.toNat)) 1 = (x / 2 ^ bits.toNat) % 2 := by
  rw [bitAnd_m1, Int.fdiv_eq_ediv_of_nonneg _ (by have := pow_lo bits.toNat; omega)]
theorem text_tells {w : World} {mean : ExcName → Option Value} {mg mb : Str → Option Value}
  {dp un : Nat} {gd : Option (List Code)} {env : Env} {outer : List Env} {base : Heap} {s : Shared} {Q E : Value → Shared → Prop}
  {data : Array UInt8} {ks : List Int} {dt att bt : Tok} {at_ bits : Int}
  (C : Ctx w mean mg mb base s.heap (env :: outer)) (hdp : dp + 6 < recursionLimit) (hun : un + 64 < cLine)
  (hD : KBw.bInts data = ks) (hsz : ks.length ≤ 1000) (hat0 : 0 ≤ at_) (hat1 : at_ < 1000) (hb0 : 1 ≤ bits) (hb1 : bits ≤ 7)
  (hret : ∀ txt a', getT ks at_ bits.toNat = .ok txt a' → ∀ D b t1 t2 h' tk', Keeps s.heap h' → s.heap.get? D = none → KBw.bInts b = txt → h'.get? D = some (tupObj [.bytes b t1, .int a' t2]) → Q (.ref D) { s with heap := h', toks := tk' })
  (hshort : getT ks at_ bits.toNat = .short → ∀ e D od h' tk', Raised s.heap (frs (env :: outer)) e 51 D od h' → E (.ref e) { s with heap := h', toks := tk' })
  (hbig : getT ks at_ bits.toNat = .big → ∀ e D od h' tk' tk2, Raised s.heap (frs (env :: outer)) e 31 D od h' → lookIn (Str.ofString "code") od = some (some (.int 512 tk2)) → E (.ref e) { s with heap := h', toks := tk' })
   :
  wpAny (MM w) (AR dp un gd env outer) (call (.ref 82) [.bytes data dt, .int at_ att, .int bits bt]) Q E s := by
    refine wpAny_call ?_
    k_dflt (refine' enterP ?k1 ?kA ?k6 ?k7 ?k8 ?k9 ?kB ?_ ?c2 ?c3 ?c4 ?c5; (case kA => exact rfl); (case k1 => assumption); (case k6 => k_is); (case k7 => k_is); (case k8 => ktr_room); (case k9 => exact BindsTo.of_eq rfl); (case c5 => decide); (case kB => exact locs rfl); (case c2 => exact rfl); (case c3 => exact rfl); (case c4 => exact rfl); k_whole; intro g' L' h' hg' F' N' B' X' T'; (try dsimp only); (try k_fold))
    have C' : Ctx w mean mg mb base g' (env :: outer) := hg' ▸ C
    have hbf := huff (x := ks.getD at_.toNat 0) (bits := bits) (by omega)
    have hT0 : ∀ (_ : ¬ (at_ < (ks.length : Int) ∧ Builtin.bitAnd (Int.fdiv (ks.getD at_.toNat 0) (2 ^ bits.toNat)) 1 = 1)), getT ks at_ bits.toNat = (match getP (ks.drop at_.toNat) at_ bits.toNat with
        | .short => .short
        | .big => .big
        | .ok f a' => if (ks.length : Int) < a' + f then .short else .ok ((ks.drop a'.toNat).take f.toNat) (a' + f)) := fun hn => by
      rw [hbf] at hn
      unfold getT
      exact if_neg hn
    clear hbf
    k_steps
    · rename ∃ tk, lookIn _ _ = _ => hlk
      obtain ⟨tk2, hlk⟩ := hlk
      rename Raised _ _ _ _ _ _ _ => RR
      rename Builtin.bitAnd _ _ = 1 => hb
      rename at_ < (ks.length : Int) => ha
      rw [huff (by omega)] at hb
      exact hbig (by unfold getT; rw [if_pos ⟨ha, hb⟩]) _ _ _ _ _ _ (hg' ▸ RR) hlk
    · rename Raised _ _ _ _ _ _ _ => RR
      rename (ks.length : Int) < _ + _ => hlt
      rename getP _ _ _ = _ => hr
      rename Builtin.bitAnd _ _ ≠ 1 => hb
      refine hshort ?_ _ _ _ _ _ (hg' ▸ RR)
      rw [hT0 (fun q => hb q.2), hr]
      exact if_pos hlt
    · rename ¬ (ks.length : Int) < _ + _ => hlt
      rename getP _ _ _ = _ => hr
      rename Builtin.bitAnd _ _ ≠ 1 => hb
      rename Fr _ _ _ _ => FF
      rename News _ _ _ _ => NN
      rename KBw.bInts (KBy.picked _ _ _) = _ => hk
      have hb9 := getP_bounds (by omega) hr
      rw [slice_eq (by omega) (by omega) hlt] at hk
      have hr2 := hT0 (fun q => hb q.2)
      rw [hr] at hr2
      simp only [if_neg hlt] at hr2
      exact hret _ _ hr2 _ _ _ _ _ _ (fun b o hb => FF.keep b o (hg' ▸ hb)) (hg' ▸ NN.fresh (.head _)) hk (NN.get (.head _))
    · rename getP _ _ _ = _ => hr
      rename Builtin.bitAnd _ _ ≠ 1 => hb
      rename Raised _ _ _ _ _ _ _ => RR
      refine hshort ?_ _ _ _ _ _ (hg' ▸ RR)
      rw [hT0 (fun q => hb q.2), hr]
    · rename getP _ _ _ = _ => hr
      rename Builtin.bitAnd _ _ ≠ 1 => hb
      rename Raised _ _ _ _ _ _ _ => RR
      rename lookIn _ _ = _ => hlk
      refine hbig ?_ _ _ _ _ _ _ (hg' ▸ RR) hlk
      rw [hT0 (fun q => hb q.2), hr]
    · exfalso
      rename getP _ _ _ = _ => hr
      rename ¬ (at_ < (ks.length : Int)) => ha
      rw [getP_end (by omega)] at hr
      cases hr
    · rename getP _ _ _ = _ => hr
      rename ¬ (at_ < (ks.length : Int)) => ha
      rename Raised _ _ _ _ _ _ _ => RR
      refine hshort ?_ _ _ _ _ _ (hg' ▸ RR)
      rw [hT0 (fun q => ha q.1), hr]
    · exfalso
      rename getP _ _ _ = _ => hr
      rename ¬ (at_ < (ks.length : Int)) => ha
      rw [getP_end (by omega)] at hr
      cases hr
end Mine
end

section
open PySem PySem.W PyProof.Rows PySem.Spec PySem.Calls Builtin.ObjectAttr
set_option Elab.async false
set_option maxRecDepth 100000
set_option maxHeartbeats 40000000
namespace Mine
theorem fillRead2 : ∀ (o : OpenLaw) (f : Params → Frag), o = Challenge.rw_no0050_01 → f = hd.heap_39 → True := by
  k_fill
  w_top off
  intros; trivial
theorem text_use {w : World} {mean : ExcName → Option Value} {mg mb : Str → Option Value}
  {dp un : Nat} {gd : Option (List Code)} {env : Env} {outer : List Env} {base g : Heap} {L : Addr} {m : Str → Option Value} {news : List (Addr × Obj)} {s : Shared} {Q E : Value → Shared → Prop} {A₀ : Around}
  {data : Array UInt8} {ks : List Int} {dt att bt : Tok} {at_ bits : Int}
  (C : Ctx w mean mg mb base g outer) (B : Below A₀ base outer g) (F : Fr g L s.heap m) (N : News g L s.heap news) (hf : env.frame = some L) (hk : env.scope.kind = .function) (hdp : dp + 6 < recursionLimit) (hun : un + 64 < cLine)
  (hD : KBw.bInts data = ks) (hsz : ks.length ≤ 1000) (hat0 : 0 ≤ at_) (hat1 : at_ < 1000) (hb0 : 1 ≤ bits) (hb1 : bits ≤ 7)
  (hret : ∀ txt a', getT ks at_ bits.toNat = .ok txt a' → ∀ D b t1 t2 h' tk', Fr g L h' m → News g L h' ((D, tupObj [.bytes b t1, .int a' t2]) :: news) → KBw.bInts b = txt → Q (.ref D) { s with heap := h', toks := tk' })
  (hshort : getT ks at_ bits.toNat = .short → ∀ e D od h' tk', Raised s.heap (frs (env :: outer)) e 51 D od h' → E (.ref e) { s with heap := h', toks := tk' })
  (hbig : getT ks at_ bits.toNat = .big → ∀ e D od h' tk' tk2, Raised s.heap (frs (env :: outer)) e 31 D od h' → lookIn (Str.ofString "code") od = some (some (.int 512 tk2)) → E (.ref e) { s with heap := h', toks := tk' })
   :
  wpAny (MM w) (AR dp un gd env outer) (call (.ref 82) [.bytes data dt, .int at_ att, .int bits bt]) Q E s :=
  text_tells (ctx_push C B F hf hk) hdp hun hD hsz hat0 hat1 hb0 hb1 (fun f a' e D b t1 t2 h' tk' k hn hb ho => hret f a' e D b t1 t2 h' tk' (F.keeps k) (news_in F N k hn ho) hb) hshort hbig
local macro_rules | `(tactic| walk_at "call ref") => `(tactic| (k_here; k_dflt (refine' text_use ?C ?B ?F ?N ?hf ?hk ?d ?u ?hD ?z ?a0 ?a1 ?b0 ?b1 ?_ ?_ ?_; (case C => k_asm); (case B => k_asm); (case F => k_asm); (case N => k_asm); (case hf => exact rfl); (case hk => exact rfl); (case d => ktr_room); (case u => ktr_units); (case hD => k_asm); (case z => omega); (case a0 => omega); (case a1 => omega); (case b0 => omega); (case b1 => omega)); (first | intro txt9 a9 hr9 D' b9 t1 t2 h' tk' F' N' hk9 | intro hr9 e' D' od' h' tk' R' | intro hr9 e' D' od' h' tk' tk2 R' hl')))
local macro_rules | `(tactic| walk_at "noteFrame ref") => `(tactic| (refine stop_at ?_))
theorem read_text_tells {w : World} {mean : ExcName → Option Value} {mg mb : Str → Option Value}
  {dp un : Nat} {gd : Option (List Code)} {env : Env} {outer : List Env} {base : Heap} {s : Shared} {Q E : Value → Shared → Prop}
  {data : Array UInt8} {ks : List Int} {dt att bt : Tok} {at_ bits : Int}
  (C : Ctx w mean mg mb base s.heap (env :: outer)) (hdp : dp + 8 < recursionLimit) (hun : un + 96 < cLine)
  (hD : KBw.bInts data = ks) (hsz : ks.length ≤ 1000) (hat0 : 0 ≤ at_) (hat1 : at_ < 1000) (hb0 : 1 ≤ bits) (hb1 : bits ≤ 7)
  (hret : ∀ txt a', getT ks at_ bits.toNat = .ok txt a' → ∀ D b t1 t2 h' tk', Keeps s.heap h' → s.heap.get? D = none → KBw.bInts b = txt → h'.get? D = some (tupObj [.bytes b t1, .int a' t2]) → Q (.ref D) { s with heap := h', toks := tk' })
  (hshort : getT ks at_ bits.toNat = .short → ∀ t h' tk', Turn (frs (env :: outer)) s.heap h' → Q (.str (Str.ofString "short") t) { s with heap := h', toks := tk' })
  (hbig : getT ks at_ bits.toNat = .big → ∀ t h' tk', Turn (frs (env :: outer)) s.heap h' → Q (.int 512 t) { s with heap := h', toks := tk' })
   :
  wpAny (MM w) (AR dp un gd env outer) (call (.ref 117) [.bytes data dt, .int at_ att, .int bits bt]) Q E s := by
    refine wpAny_call ?_
    k_dflt (refine' enterP ?k1 ?kA ?k6 ?k7 ?k8 ?k9 ?kB ?_ ?c2 ?c3 ?c4 ?c5; (case kA => exact rfl); (case k1 => assumption); (case k6 => k_is); (case k7 => k_is); (case k8 => ktr_room); (case k9 => exact BindsTo.of_eq rfl); (case c5 => decide); (case kB => exact locs rfl); (case c2 => exact rfl); (case c3 => exact rfl); (case c4 => exact rfl); k_whole; intro g' L' h' hg' F' N' B' X' T'; (try dsimp only); (try k_fold))
    have C' : Ctx w mean mg mb base g' (env :: outer) := hg' ▸ C
    k_steps
    · rename getT _ _ _ = _ => hr
      rename Fr _ _ _ _ => FF
      rename News _ _ _ _ => NN
      rename KBw.bInts _ = _ => hk9
      exact hret _ _ hr _ _ _ _ _ _ (fun b o hb => FF.keep b o (hg' ▸ hb)) (hg' ▸ NN.fresh (.head _)) hk9 (NN.get (.head _))
    · rename getT _ _ _ = _ => hr
      rename Raised _ _ _ _ _ _ _ => RR
      unfold Stop
      refine raised_lands B' F' RR (fun h' R' => ?_)
      refine handler_test (C' := 51) (b := true) B' F' C'.K C'.T R' (by k_is) (by k_is) (by k_is) (by k_is) (by k_is) ?_
      rw [if_pos rfl]
      refine caught_plain B' F' C'.K C'.T R' (fun h2 g2 T2 F2 B2 X2 P2 => ?_) (by passes_own)
      k_steps
      exact hshort hr _ _ _ (turn_of (hg' ▸ T2) F2)
    · rename getT _ _ _ = _ => hr
      rename Raised _ _ _ _ _ _ _ => RR
      unfold Stop
      refine raised_lands B' F' RR (fun h' R' => ?_)
      refine handler_test (C' := 51) (b := false) B' F' C'.K C'.T R' (by k_is) (by k_is) (by k_is) (by k_is) (by k_is) ?_
      rw [if_neg Bool.false_ne_true]
      refine handler_test (C' := 31) (b := true) B' F' C'.K C'.T R' (by k_is) (by k_is) (by k_is) (by k_is) (by k_is) ?_
      rw [if_pos rfl]
      refine caught_as B' F' C'.K C'.T R' (fun h2 g2 ob vs tk T2 F2 B2 X2 P2 he hc hd hv hD => ?_) rfl rfl (fun o ho => raised_ne R' ho)
      rename lookIn _ _ = _ => hlk
      k_steps
      refine exc_get (C := 31) (X2.keeps F2.keep) ⟨he, hc, by unfold notCls; rw [hv], by rw [hd]; exact hD⟩ (by k_is) (by k_is) (by k_is) (findObj_own (by k_is) (by k_is) rfl hlk) rfl ?_
      refine name_goes_here F2 (fun h3 v3 F3 => ?_)
      k_steps
      exact hbig hr _ _ _ (turn_of (hg' ▸ T2) F3)
end Mine
end

section
open PySem PySem.W PyProof.Rows PySem.Spec PySem.Calls
set_option Elab.async false
set_option maxRecDepth 100000
set_option maxHeartbeats 40000000
namespace Mine
local macro_rules | `(tactic| walk_at "no such key") => `(tactic| skip)
theorem fillBox1 : ∀ (o : OpenLaw) (f : Params → Frag), o = Challenge.rw_no0050_01 → f = hd.heap_39 → True := by
  k_fill
  w_top off
  intros; trivial
local macro_rules | `(tactic| walk_at "exec For") => `(tactic| (k_here; (rename Fr _ _ _ _ => lF'); (with_unfolding_all refine' For_invVF lF' ?k1 ?k2 ?_; (case k1 => exact rfl); (case k2 => exact rfl)); k_whole))
local macro_rules | `(tactic| walk_at "pyIter ref") => `(tactic| (k_state (fun pre st => 0 ≤ st ∧ st < 2147483647) "stirred"))
theorem box_tells {w : World} {mean : ExcName → Option Value} {mg mb : Str → Option Value}
  {dp un : Nat} {gd : Option (List Code)} {env : Env} {outer : List Env} {base : Heap} {s : Shared} {Q E : Value → Shared → Prop}
  {a : Addr} {vs : List Value} {ns : List Int}
  (C : Ctx w mean mg mb base s.heap (env :: outer)) (hdp : dp + 2 < recursionLimit) (hun : un + 16 < cLine)
  (hL : s.heap.IsList a vs.toArray) (hI : IntsAre vs ns) (hlen : ns.length ≤ 63)
  (hret : ∀ D l vs' ns' n0 n1 st t h' tk', Keeps s.heap h' → s.heap.get? D = none → s.heap.get? l = none → @LT.lt Nat _ l D → IntsAre vs' ns' → ns'.length ≤ 24 → 0 ≤ st → st < 2147483647 →
    h'.get? D = some (listOf #[.ref l, .int st t] n0) → h'.get? l = some (listOf vs'.toArray n1) → Q (.ref D) { s with heap := h', toks := tk' })
   :
  wpAny (MM w) (AR dp un gd env outer) (call (.ref 96) [.ref a]) Q E s := by
    refine wpAny_call ?_
    k_dflt (refine' enterP ?k1 ?kA ?k6 ?k7 ?k8 ?k9 ?kB ?_ ?c2 ?c3 ?c4 ?c5; (case kA => exact rfl); (case k1 => assumption); (case k6 => k_is); (case k7 => k_is); (case k8 => ktr_room); (case k9 => exact BindsTo.of_eq rfl); (case c5 => decide); (case kB => exact locs rfl); (case c2 => exact rfl); (case c3 => exact rfl); (case c4 => exact rfl); k_whole; intro g' L' h' hg' F' N' B' X' T'; (try dsimp only); (try k_fold))
    have C' : Ctx w mean mg mb base g' (env :: outer) := hg' ▸ C
    rw [← hg'] at hL
    k_steps
    rename Fr _ _ _ _ => FF
    rename News _ _ _ _ => NN
    rename IntsAre _ (List.take 24 ns) => hI9
    rename @LT.lt Nat _ _ _ ∧ _ ∧ _ => l9
    refine hret _ _ _ _ _ _ _ _ _ _ (fun b o hb => FF.keep b o (hg' ▸ hb)) (hg' ▸ NN.fresh (.head _)) (hg' ▸ NN.fresh (.tail _ (.head _))) l9.1 hI9 (by rw [List.length_take]; omega) (by assumption) (by assumption) (NN.get (.head _)) (NN.get (.tail _ (.head _)))
end Mine
end

section
set_option Elab.async false
set_option maxRecDepth 100000
namespace Mine
noncomputable def tl (left : Int) : List Int := if 127 < left then (left % 128 + 128) :: tl (left / 128) else [left]
termination_by left.toNat
decreasing_by omega
theorem tl_step {x : Int} (h : 127 < x) : tl x = (x % 128 + 128) :: tl (x / 128) := by rw [tl, if_pos h]
theorem tl_stop {x : Int} (h : ¬ 127 < x) : tl x = [x] := by rw [tl, if_neg h]
noncomputable def written (number : Int) (bits : Nat) (head : Int) : List Int := if number < 2 ^ bits - 1 then [head + number] else (head + (2 ^ bits - 1)) :: tl (number - (2 ^ bits - 1))

theorem pow7 (sh : Nat) : (2 : Int) ^ (sh + 7) = 128 * 2 ^ sh := by rw [Int.pow_add, Int.mul_comm]; rfl
/-- reading back what was written: the digits of x from place sh on -/
theorem more_tl : ∀ (n : Nat) (x f : Int) (sh : Nat) (at_ : Int) (rest : List Int), x.toNat ≤ n → 0 ≤ x → 0 ≤ f → f + x * 2 ^ sh ≤ 4611686018427387903 → (0 < x ∨ sh = 0) →
    more (tl x ++ rest) f sh at_ = .ok (f + x * 2 ^ sh) (at_ + (tl x).length) := by
  intro n
  induction n using Nat.strongRecOn with
  | ind n ih =>
    intro x f sh at_ rest hn h0 hf hle hpos
    have hp := pow_lo sh
    have hsh : sh ≤ 62 := by
      rcases hpos with h | h
      · refine Nat.le_of_not_lt fun q => ?_
        have h1 : (2 : Int) ^ 63 ≤ 2 ^ sh := by
          have : (2 : Nat) ^ 63 ≤ 2 ^ sh := Nat.pow_le_pow_right (by decide) q
          exact_mod_cast this
        have h2 : (2 : Int) ^ sh ≤ x * 2 ^ sh := by
          have := Int.mul_le_mul_of_nonneg_right (show (1 : Int) ≤ x by omega) (show (0 : Int) ≤ 2 ^ sh by omega)
          omega
        have h3 : (2 : Int) ^ 63 = 9223372036854775808 := by decide
        omega
      · omega
    by_cases hx : 127 < x
    · rw [tl_step hx, List.cons_append, more]
      have hm : (x % 128 + 128) % 128 = x % 128 := by omega
      have hsplit : x * 2 ^ sh = (x % 128) * 2 ^ sh + (x / 128) * (2 ^ (sh + 7)) := by
        rw [pow7, show (x / 128) * (128 * 2 ^ sh) = (x / 128 * 128) * 2 ^ sh by rw [Int.mul_assoc], ← Int.add_mul]
        congr 1
        omega
      have hd : 0 ≤ (x / 128) * 2 ^ (sh + 7) := Int.mul_nonneg (by omega) (by have := pow_lo (sh + 7); omega)
      have hm0 : 0 ≤ (x % 128) * 2 ^ sh := Int.mul_nonneg (by omega) (by omega)
      rw [hm, if_neg (by omega), if_neg (by omega)]
      rw [ih (x / 128).toNat (by omega) (x / 128) (f + (x % 128) * 2 ^ sh) (sh + 7) (at_ + 1) rest (Nat.le_refl _) (by omega) (by omega) (by omega) (.inl (by omega))]
      rw [List.length_cons]
      congr 1
      · omega
      · omega
    · rw [tl_stop hx, List.cons_append, more, List.nil_append]
      have hm : x % 128 = x := by omega
      rw [hm, if_neg (by omega), if_pos (by omega)]
      rfl
theorem getP_written {number head at_ : Int} {k : Nat} (rest : List Int) (h0 : 0 ≤ number) (h1 : number ≤ 4611686018427387903) (hm : head % 2 ^ k = 0) :
    getP (written number k head ++ rest) at_ k = .ok number (at_ + (written number k head).length) := by
  have hp := pow_lo k
  unfold written
  split
  · rename_i h
    rw [List.singleton_append, getP]
    have e : (head + number) % 2 ^ k = number := by rw [Int.add_emod, hm, Int.zero_add, Int.emod_emod_of_dvd _ (Int.dvd_refl _), Int.emod_eq_of_lt h0 (by omega)]
    rw [e, if_pos h]
    rfl
  · rename_i h
    rw [List.cons_append, getP]
    have e : (head + (2 ^ k - 1)) % 2 ^ k = 2 ^ k - 1 := by rw [Int.add_emod, hm, Int.zero_add, Int.emod_emod_of_dvd _ (Int.dvd_refl _), Int.emod_eq_of_lt (by omega) (by omega)]
    rw [e, if_neg (by omega), more_tl (number - (2 ^ k - 1)).toNat _ _ _ _ _ (Nat.le_refl _) (by omega) (by omega) (by rw [Int.pow_zero]; omega) (.inr rfl), List.length_cons]
    congr 1
    · rw [Int.pow_zero]; omega
    · omega
/-- any strict beginning of what was written is short -/
theorem more_short : ∀ (n : Nat) (x f : Int) (sh : Nat) (at_ : Int) (m : Nat), x.toNat ≤ n → 0 ≤ x → 0 ≤ f → f + x * 2 ^ sh ≤ 4611686018427387903 → (0 < x ∨ sh = 0) → m < (tl x).length →
    more ((tl x).take m) f sh at_ = .short := by
  intro n
  induction n using Nat.strongRecOn with
  | ind n ih =>
    intro x f sh at_ m hn h0 hf hle hpos hm9
    have hp := pow_lo sh
    cases m with
    | zero => rw [List.take_zero]; rfl
    | succ m =>
      have hsh : sh ≤ 62 := by
        rcases hpos with h | h
        · refine Nat.le_of_not_lt fun q => ?_
          have h1 : (2 : Int) ^ 63 ≤ 2 ^ sh := by
            have : (2 : Nat) ^ 63 ≤ 2 ^ sh := Nat.pow_le_pow_right (by decide) q
            exact_mod_cast this
          have h2 : (2 : Int) ^ sh ≤ x * 2 ^ sh := by
            have := Int.mul_le_mul_of_nonneg_right (show (1 : Int) ≤ x by omega) (show (0 : Int) ≤ 2 ^ sh by omega)
            omega
          have h3 : (2 : Int) ^ 63 = 9223372036854775808 := by decide
          omega
        · omega
      by_cases hx : 127 < x
      · rw [tl_step hx] at hm9 ⊢
        rw [List.take_succ_cons, more]
        have hm : (x % 128 + 128) % 128 = x % 128 := by omega
        have hsplit : x * 2 ^ sh = (x % 128) * 2 ^ sh + (x / 128) * (2 ^ (sh + 7)) := by
          rw [pow7, show (x / 128) * (128 * 2 ^ sh) = (x / 128 * 128) * 2 ^ sh by rw [Int.mul_assoc], ← Int.add_mul]
          congr 1
          omega
        have hd : 0 ≤ (x / 128) * 2 ^ (sh + 7) := Int.mul_nonneg (by omega) (by have := pow_lo (sh + 7); omega)
        have hm0 : 0 ≤ (x % 128) * 2 ^ sh := Int.mul_nonneg (by omega) (by omega)
        rw [hm, if_neg (by omega), if_neg (by omega)]
        rw [List.length_cons] at hm9
        exact ih (x / 128).toNat (by omega) (x / 128) (f + (x % 128) * 2 ^ sh) (sh + 7) (at_ + 1) m (Nat.le_refl _) (by omega) (by omega) (by omega) (.inl (by omega)) (by omega)
      · rw [tl_stop hx] at hm9
        simp at hm9
theorem getP_short {number head at_ : Int} {k m : Nat} (h0 : 0 ≤ number) (h1 : number ≤ 4611686018427387903) (hm : head % 2 ^ k = 0) (hs : m < (written number k head).length) :
    getP ((written number k head).take m) at_ k = .short := by
  have hp := pow_lo k
  cases m with
  | zero => rw [List.take_zero]; rfl
  | succ m =>
    unfold written at hs ⊢
    split
    · rename_i h
      rw [if_pos h] at hs
      simp at hs
    · rename_i h
      rw [if_neg h, List.length_cons] at hs
      rw [List.take_succ_cons, getP]
      have e : (head + (2 ^ k - 1)) % 2 ^ k = 2 ^ k - 1 := by rw [Int.add_emod, hm, Int.zero_add, Int.emod_emod_of_dvd _ (Int.dvd_refl _), Int.emod_eq_of_lt (by omega) (by omega)]
      rw [e, if_neg (by omega)]
      exact more_short (number - (2 ^ k - 1)).toNat _ _ _ _ _ (Nat.le_refl _) (by omega) (by omega) (by rw [Int.pow_zero]; omega) (.inr rfl) (by omega)
/-- a number past the greatest is refused -/
theorem more_big : ∀ (n : Nat) (x f : Int) (sh : Nat) (at_ : Int) (rest : List Int), x.toNat ≤ n → 0 ≤ x → 0 ≤ f → 4611686018427387903 < f + x * 2 ^ sh → more (tl x ++ rest) f sh at_ = .big := by
  intro n
  induction n using Nat.strongRecOn with
  | ind n ih =>
    intro x f sh at_ rest hn h0 hf hgt
    have hp := pow_lo sh
    by_cases hx : 127 < x
    · rw [tl_step hx, List.cons_append, more]
      have hm : (x % 128 + 128) % 128 = x % 128 := by omega
      have hsplit : x * 2 ^ sh = (x % 128) * 2 ^ sh + (x / 128) * (2 ^ (sh + 7)) := by
        rw [pow7, show (x / 128) * (128 * 2 ^ sh) = (x / 128 * 128) * 2 ^ sh by rw [Int.mul_assoc], ← Int.add_mul]
        congr 1
        omega
      have hm0 : 0 ≤ (x % 128) * 2 ^ sh := Int.mul_nonneg (by omega) (by omega)
      rw [hm]
      split
      · rfl
      · rw [if_neg (by omega)]
        exact ih (x / 128).toNat (by omega) (x / 128) (f + (x % 128) * 2 ^ sh) (sh + 7) (at_ + 1) rest (Nat.le_refl _) (by omega) (by omega) (by omega)
    · rw [tl_stop hx, List.cons_append, more]
      have hm : x % 128 = x := by omega
      rw [hm, if_pos (.inl (by omega))]
theorem getP_great {number head at_ : Int} {k : Nat} (hk : k ≤ 8) (h0 : 4611686018427387904 ≤ number) (hm : head % 2 ^ k = 0) : getP (written number k head) at_ k = .big := by
  have hp := pow_lo k
  have hq : (2 : Int) ^ k ≤ 2 ^ 8 := by
    have : (2 : Nat) ^ k ≤ 2 ^ 8 := Nat.pow_le_pow_right (by decide) hk
    exact_mod_cast this
  have h8 : (2 : Int) ^ 8 = 256 := by decide
  unfold written
  rw [if_neg (by omega), getP]
  have e : (head + (2 ^ k - 1)) % 2 ^ k = 2 ^ k - 1 := by rw [Int.add_emod, hm, Int.zero_add, Int.emod_emod_of_dvd _ (Int.dvd_refl _), Int.emod_eq_of_lt (by omega) (by omega)]
  rw [e, if_neg (by omega)]
  have := more_big (number - (2 ^ k - 1)).toNat (number - (2 ^ k - 1)) (2 ^ k - 1) 0 (at_ + 1) [] (Nat.le_refl _) (by omega) (by omega) (by rw [Int.pow_zero]; omega)
  rw [List.append_nil] at this
  exact this
/-- twelve octets of 128, then 0: refused by the place alone -/
theorem getP_long {head at_ : Int} {k : Nat} (hk : k ≤ 8) (hm : head % 2 ^ k = 0) :
    getP ((head + 2 ^ k - 1) :: (List.replicate 12 128 ++ [0])) at_ k = .big := by
  have hp := pow_lo k
  have hq : (2 : Int) ^ k ≤ 2 ^ 8 := by
    have : (2 : Nat) ^ k ≤ 2 ^ 8 := Nat.pow_le_pow_right (by decide) hk
    exact_mod_cast this
  have h8 : (2 : Int) ^ 8 = 256 := by decide
  have e : (head + 2 ^ k - 1) % 2 ^ k = 2 ^ k - 1 := by
    rw [show head + 2 ^ k - 1 = head + (2 ^ k - 1) by omega, Int.add_emod, hm, Int.zero_add, Int.emod_emod_of_dvd _ (Int.dvd_refl _), Int.emod_eq_of_lt (by omega) (by omega)]
  rw [getP, e, if_neg (by omega)]
  generalize (2 : Int) ^ k - 1 = f at *
  have hf : f ≤ 255 := by omega
  have hf0 : 0 ≤ f := by omega
  simp only [List.replicate, List.cons_append, List.nil_append]
  have z : (128 : Int) % 128 = 0 := by decide
  iterate 9 (rw [more, z, Int.zero_mul, Int.add_zero, if_neg (by omega), if_neg (by decide)])
  rw [more, if_pos (.inr (by decide))]
end Mine
end

section
open PySem PySem.W PyProof.Rows PySem.Spec PySem.Calls
set_option Elab.async false
set_option maxRecDepth 100000
set_option maxHeartbeats 40000000
namespace Mine
theorem fillWritten1 : ∀ (o : OpenLaw) (f : Params → Frag), o = Challenge.rw_no0050_01 → f = hd.heap_39 → True := by
  k_fill
  w_top off
  intros; trivial
theorem push_snoc (vs : List Value) (x : Value) : (vs ++ [x]).toArray = vs.toArray.push x := by simp
theorem tl_len : ∀ (k : Nat) (x : Int), 0 ≤ x → x < 128 * 128 ^ k → (tl x).length ≤ k + 1 := by
  intro k
  induction k with
  | zero =>
    intro x h0 h1
    rw [tl_stop (by omega)]
    exact Nat.le_refl 1
  | succ k ih =>
    intro x h0 h1
    rw [tl]
    split
    · rw [List.length_cons]
      have := ih (x / 128) (by omega) (by rw [show (128 : Int) ^ (k + 1) = 128 ^ k * 128 from Int.pow_succ ..] at h1; omega)
      omega
    · simp
theorem tl_len10 {x : Int} (h0 : 0 ≤ x) (h1 : x < 2 ^ 63) : (tl x).length ≤ 10 := tl_len 9 x h0 (by omega)
theorem written_len {number head : Int} {k : Nat} (h0 : 0 ≤ number) (h1 : number < 2 ^ 63) : 1 ≤ (written number k head).length ∧ (written number k head).length ≤ 11 := by
  unfold written
  have := Int.pow_pos (n := 2) (m := k) (by decide)
  split
  · exact ⟨Nat.le_refl 1, Nat.le_of_ble_eq_true rfl⟩
  · rw [List.length_cons]
    have := tl_len10 (x := number - (2 ^ k - 1)) (by omega) (by omega)
    omega
local macro_rules | `(tactic| walk_at "exec While Compare cons nil") => `(tactic| (refine stop_at ?_))
theorem written_tells {w : World} {mean : ExcName → Option Value} {mg mb : Str → Option Value}
  {dp un : Nat} {gd : Option (List Code)} {env : Env} {outer : List Env} {base : Heap} {s : Shared} {Q E : Value → Shared → Prop}
  {nt bt ht : Tok} {number bits head : Int}
  (C : Ctx w mean mg mb base s.heap (env :: outer)) (hdp : dp + 2 < recursionLimit) (hun : un + 16 < cLine)
  (hn0 : 0 ≤ number) (hn1 : number < 2 ^ 63) (hb0 : 1 ≤ bits) (hb1 : bits ≤ 8) (hh0 : 0 ≤ head) (hh1 : head < 256)
  (hret : ∀ D vs n h' tk', Keeps s.heap h' → s.heap.get? D = none → IntsAre vs (written number bits.toNat head) → h'.get? D = some (listOf vs.toArray n) → Q (.ref D) { s with heap := h', toks := tk' })
   :
  wpAny (MM w) (AR dp un gd env outer) (call (.ref 103) [.int number nt, .int bits bt, .int head ht]) Q E s := by
    refine wpAny_call ?_
    k_dflt (refine' enterP ?k1 ?kA ?k6 ?k7 ?k8 ?k9 ?kB ?_ ?c2 ?c3 ?c4 ?c5; (case kA => exact rfl); (case k1 => assumption); (case k6 => k_is); (case k7 => k_is); (case k8 => ktr_room); (case k9 => exact BindsTo.of_eq rfl); (case c5 => decide); (case kB => exact locs rfl); (case c2 => exact rfl); (case c3 => exact rfl); (case c4 => exact rfl); k_whole; intro g' L' h' hg' F' N' B' X' T'; (try dsimp only); (try k_fold))
    have C' : Ctx w mean mg mb base g' (env :: outer) := hg' ▸ C
    have hp9 := pow_bits hb0 hb1
    k_steps
    · rename number < _ => hlt
      rename Fr _ _ _ _ => FF
      rename News _ _ _ _ => NN
      refine hret _ [_] _ _ _ (fun b o hb => FF.keep b o (hg' ▸ hb)) (hg' ▸ NN.fresh (.head _)) ?_ (NN.get (.head _))
      unfold written
      rw [if_pos hlt]
      exact .cons _ _ .nil
    · unfold Stop
      rename Fr _ _ _ _ => FW
      rename News _ _ _ _ => NN
      rename ¬ (number < _) => hlt
      rename @LT.lt Nat _ _ _ => hll
      have NW := News.tail' NN
      refine' ksw_while (σ := List Value × Nat × Int × Tok × List Int) (fun c => [(_, listOf c.1.toArray c.2.1)]) (fun c => [(Str.ofString "left", .int c.2.2.1 c.2.2.2.1)]) (fun c => IntsAre c.1 c.2.2.2.2) [Str.ofString "left"]
         (fun c => 0 ≤ c.2.2.1 ∧ c.2.2.1 < 2 ^ 63 ∧ c.2.2.2.2.length ≤ 10 ∧ c.2.2.2.2 ++ tl c.2.2.1 = tl (number - (2 ^ bits.toNat - 1)))
         (fun c => c.2.2.1.toNat) ([], 0, number - (2 ^ bits.toNat - 1), _, []) FW NW .nil ?kk ?kp ?turn
      case kk =>
        intro p hp
        simp only [List.mem_cons, List.not_mem_nil, or_false] at hp
        subst hp
        rfl
      case kp =>
        dsimp only
        exact ⟨by omega, by omega, by decide, rfl⟩
      case turn =>
        rintro ⟨vs, n1, left, t1, ks⟩ u h tk hf hp FT NT
        dsimp only at hf hp FT NT
        obtain ⟨p0, p1, p2, p3⟩ := hp
        clear FW NW NN
        k_steps
        · rename Fr _ _ _ _ => FF
          rename News _ _ _ _ => NN
          rename 127 < left => hlo
          rw [tl, if_pos hlo] at p3
          have hf2 : Int.fdiv left 128 = left / 128 := Int.fdiv_eq_ediv_of_nonneg _ (by decide)
          have hm2 : Int.fmod left 128 = left % 128 := Int.fmod_eq_emod_of_nonneg _ (by decide)
          have hlen : (ks ++ (left % 128 + 128) :: tl (left / 128)).length ≤ 10 := by
            rw [p3]
            exact tl_len10 (by omega) (by omega)
          simp only [List.length_append, List.length_cons] at hlen
          refine' ksw_end (vs ++ [.int (Int.fmod left 128 + 128) ?tk1], n1 + 1, Int.fdiv left 128, ?tk2, ks ++ [left % 128 + 128]) FF NN ?hn ?hf ?hk ?hz ?hp ?hm
          case hn =>
            intro p hp
            simp only [List.mem_cons, List.not_mem_nil, or_false] at hp
            subst hp
            rw [push_snoc]
            exact .head _
          case hf =>
            dsimp only
            rw [← hm2]
            exact hf.append (.cons _ _ .nil)
          case hk =>
            intro p hp
            simp only [List.mem_cons, List.not_mem_nil, or_false] at hp
            subst hp
            rfl
          case hz =>
            intro z h2 h3
            simp only [List.forall_mem_cons, List.not_mem_nil, false_implies, implies_true, and_true, ne_eq] at h2
            simp [kstB, h2]
          case hp =>
            dsimp only
            rw [hf2]
            refine ⟨by omega, by omega, by simp only [List.length_append, List.length_cons, List.length_nil]; omega, ?_⟩
            rw [List.append_assoc]
            exact p3
          case hm =>
            dsimp only
            rw [hf2]
            omega
        · rename ¬ (127 < left) => hlo
          rename Fr _ _ _ _ => FF
          rename News _ _ _ _ => NN
          rename IntsAre _ (_ ++ _ ++ _) => hI
          refine hret _ _ _ _ _ (fun b o hb => FF.keep b o (hg' ▸ hb)) (hg' ▸ NN.fresh (.head _)) ?_ (NN.get (.head _))
          unfold written
          rw [if_neg hlt, ← p3, tl, if_neg hlo]
          simpa using hI
end Mine
end

section
open PySem PySem.W PyProof.Rows PySem.Spec PySem.Calls
open Sem (wp)
set_option Elab.async false
set_option maxRecDepth 100000
set_option maxHeartbeats 40000000
namespace Mine
section
variable {M : Model} {prog : Program} {w : World} {A : Around} {E : Value → Shared → Prop} {s : Shared} {env : Env}
theorem codeC_func {body : List Stmt} {R : Result → Shared → Prop} (h : wpC (model prog w) (A.deeper env) (execs body env) (fun f s' => R (.ok (.ret (match f with | .ret v => v | _ => .none))) s') Nev s) :
    codeC (model prog w) A (.func body env) R s := by
  refine codeC_tree ?_
  show wpC _ (A.deeper env) (do point; match ← (execs body env).onRaise (leaving env) with | .ret v => ret v | _ => ret .none) _ _ s
  refine wpC_step (wpAny_point (wpC_bind (wpC_onRaise (wpC_mono h (fun f s' x => ?_) fun _ _ x => x))))
  cases f <;> exact wpC_pure x
theorem wpC_execs_cons {st : Stmt} {rest : List Stmt} {Q : Flow → Shared → Prop} (h : wpC M A (exec st env) (fun f s' => match f with | .next => wpC M A (execs rest env) Q E s' | f => Q f s') E s) :
    wpC M A (execs (st :: rest) env) Q E s := by
  show wpC M A (exec st env >>= fun f => match f with | .next => execs rest env | f => pure f) Q E s
  refine wpC_bind (wpC_mono h (fun f s' x => ?_) fun _ _ x => x)
  cases f with
  | next => exact x
  | _ => exact wpC_pure x
theorem wpC_execs_nil {Q : Flow → Shared → Prop} (h : Q .next s) : wpC M A (execs [] env) Q E s := wpC_pure h
theorem wpC_if_test {test : Expr} {body orelse : List Stmt} {pos : Pos} {Q : Flow → Shared → Prop} (h : wpC M A (isTrue test env (eval test env)) (fun b s' => wpC M A (if b = true then execs body env else execs orelse env) Q E s') E s) :
    wpC M A (exec (.If test body orelse pos) env) Q E s := by
  show wpC M A (do standAt pos; if ← isTrue test env (eval test env) then execs body env else execs orelse env) Q E s
  exact wpC_step (wpAny_standAt (wpC_bind h))
theorem wpC_compare {left : Expr} {ops : List CmpOp} {cs : List Expr} {pos : Pos} {Q : Bool → Shared → Prop} {x : Sem Value}
    (h : wpC M A (eval left env) (fun v s' => wpC M A (testChain pos v ops (markedEach ops cs (evalEach cs env))) Q E s') E s) : wpC M A (isTrue (.Compare left ops cs pos) env x) Q E s := wpC_bind h
theorem wpC_callWith {pos : Pos} {f : Value} {first : List Value} {args : List (Bool × Sem Value)} {Q : Value → Shared → Prop}
    (hp : args.any (·.1) = false) (hlen : args.length ≤ 30)
    (h : wpAny M A (evalArgs f true args []) (fun a s₁ => (match f with | .ref x => ∃ o fd, s₁.heap.get? x = some o ∧ o.data = .func fd | _ => True) ∧ wpC M A (call f (first ++ a.pos) a.kw) Q E s₁) E s) :
    wpC M A (callWith pos f first args []) Q E s := by
  have tail : ∀ {t : Sem Value} {s₁ : Shared}, wpC M A t Q E s₁ → wpC M A (t >>= fun r => holding [r] point >>= fun _ => pure r) Q E s₁ := fun ht =>
    wpC_bind (wpC_mono ht (fun r s₂ hr => wpC_step (wpAny_holding (wpAny_point (wpC_pure hr)))) fun _ _ x => x)
  unfold callWith
  refine wpC_step (wpAny_holding (wpAny_mono h (fun a s₁ h₁ => ?_) fun _ _ x => x))
  refine wpC_step (wpAny_standAt ?_)
  obtain ⟨hk, h₁⟩ := h₁
  have hs : (args.any (·.1) || ([] : List (Option Str × Sem Value)).any (·.1.isNone)) = false := by rw [hp]; rfl
  have hn : ¬ (args.length + 2 * ([] : List (Option Str × Sem Value)).length > 30) := by simp; omega
  rw [hs]
  cases f with
  | ref x =>
    obtain ⟨o, fd, ho, hd⟩ := hk
    refine wpC_step (m := keeperOf (.ref x)) ?_
    unfold keeperOf
    refine wpAny_bind (wpAny_load ho ?_)
    rw [hd]
    refine wpAny_pure ?_
    dsimp only
    rw [if_neg hn]
    exact tail (wpC_keep h₁)
  | _ => exact wpC_step (m := keeperOf _) (wpAny_pure (tail h₁))
end
end Mine
end

section
open PySem PySem.W PyProof.Rows PySem.Spec PySem.Calls
open Sem (wp)
set_option Elab.async false
set_option maxRecDepth 100000
set_option maxHeartbeats 40000000
namespace Mine
section
variable {w : World} {mean : ExcName → Option Value} {mg mb : Str → Option Value} {base : Heap} {A : Around} {s : Shared} {env : Env} {outer : List Env}
  {R : Result → Shared → Prop} {name qual : Str} {params : Arguments} {body : List Stmt} {scope : Scope} {dV kV doc pm cdv ct oc : Value} {an od : Option Addr} {osl : Array (Option Value)} {f : Addr} {args : Args} {binds : List (Str × Value)}

theorem enterC (C : Ctx w mean mg mb base s.heap (env :: outer)) (hA : A.frames = some (env :: outer))
    (ho : (hd.heap_39 w.params).lookup f = some ⟨oc, od, .func (fnOf name qual params body scope dV kV doc pm an cdv ct), osl⟩) (hcd : codeIn (hd.heap_39 w.params) cdv qual = true) (hroom : A.depth < recursionLimit)
    (hbind : BindsTo s (fnOf name qual params body scope dV kV doc pm an cdv ct) args binds) (hloc : ∀ y ∈ binds, scope.names.lookup y.1 = some .local)
    (h : ∀ g L' h₁, g = s.heap → Fr g L' h₁ (fun y => binds.reverse.lookup y) → News g L' h₁ [] → Below A base (env :: outer) g → (hd.heap_39 w.params).In g → TT mean mg mb g →
      wpC (MM w) (A.deeper (envOf qual scope L' f cdv)) (execs body (envOf qual scope L' f cdv))
        (fun fl s' => R (.ok (.ret (match fl with | .ret v => v | _ => .none))) s') Nev
        { s with heap := h₁, toks := s.toks + binds.length })
    (hco : scope.isCoroutine = false) (hgen : scope.isGenerator = false) (hk : scope.kind = .function)
    (hcell : ∀ x ∈ scope.names, x.2 ≠ .cell) : codeC (MM w) A (.call (.ref f) args) R s := by
  have X := C.K.keeps C.stays
  have T : TT mean mg mb s.heap := C.T.keeps C.stays
  obtain ⟨c, ocd, vs, tq, hc, hoc, hdc, hq⟩ := codeRec_of X hcd
  have hlim := T.nolimit
  refine codeC_tree (wpC_of ?_)
  show wpAny _ A.in1 (callAny (.ref f) args) _ _ s
  unfold callAny
  refine wpAny_bind (wpAny_load (X _ _ ho) ?_)
  dsimp only
  unfold callFunction
  have hfc : (fnOf name qual params body scope dV kV doc pm an cdv ct).code = cdv := rfl
  rw [hfc, hc]
  refine wpAny_bind (m := field (.ref c) 1) (wpAny_field hoc hdc hq (wpAny_bind (wpAny_pure ?_)))
  refine wpAny_bind (hbind _ _ _ _ ?_)
  refine wpAny_bind (wpAny_newFunctionEnv hcell hloc (fun h₀ hns hsb => ?_) hk)
  refine wpAny_bind (wpAny_enterFrame (hlim.fresh _ hsb) hroom ?_)
  have keep : ∀ b o, s.heap.get? b = some o → h₀.get? b = some o := fun b o e => hsb.extBut b o (Nat.ne_of_lt (Heap.lt_size e)) (Heap.get?_push_of_some _ e)
  have main := h s.heap s.heap.objs.size h₀ rfl ⟨hns, keep, Nat.le_refl _⟩ .nil ⟨hA, C.stays, C.frames⟩ X T
  subst hc
  have e1 : (fnOf name qual params body scope dV kV doc pm an (.ref c) ct).scope.isGenerator = false := hgen
  have e2 : (fnOf name qual params body scope dV kV doc pm an (.ref c) ct).scope.isCoroutine = false := hco
  rw [e1, e2]
  exact wpAny_pure ⟨rfl, rfl, codeC_func main⟩
end
section
variable {M : Model} {prog : Program} {w : World} {A : Around} {E : Value → Shared → Prop} {s : Shared} {env : Env}
theorem codeC_while {test : Expr} {body : List Stmt} {R : Result → Shared → Prop} (I : Nat → Shared → Prop)
    (turn : ∀ n s, I n s → wpAny (model prog w) A (isTrue test env (eval test env)) (fun b s₂ => if b = true then wpC (model prog w) A (execs body env) (fun f s₃ => f = .next ∧ ∃ m, m < n ∧ I m s₃) Nev s₂ else R (.ok .next) s₂) Nev s) :
    ∀ (n : Nat) (s : Shared), I n s → codeC (model prog w) A (.whileLoop test body [] env) R s := by
  intro n
  induction n using Nat.strongRecOn with
  | ind n ih =>
    intro s hI
    refine codeC_tree ?_
    rw [Around.under_of_weight (c := .whileLoop test body [] env) rfl rfl]
    show wpC _ A ((whileTurn test body [] env).onRaise _) _ _ s
    refine wpC_onRaise ?_
    unfold whileTurn
    refine wpC_step (wpAny_mono (turn n s hI) (fun b s₂ hb => ?_) fun _ _ x => x)
    cases b with
    | false => exact wpC_step (wpAny_pure (wpC_pure hb))
    | true =>
      refine wpC_bind (wpC_mono hb (fun f s₃ hf => ?_) fun _ _ x => x)
      obtain ⟨rfl, m, hm, hI'⟩ := hf
      exact wpC_pure ⟨rfl, rfl, ih m hm s₃ hI'⟩
theorem wpC_while {test : Expr} {body : List Stmt} {pos : Pos} {Q : Flow → Shared → Prop} (I : Nat → Shared → Prop) (n : Nat) (hI : I n s)
    (turn : ∀ n s, I n s → wpAny (model prog w) A (isTrue test env (eval test env)) (fun b s₂ => if b = true then wpC (model prog w) A (execs body env) (fun f s₃ => f = .next ∧ ∃ m, m < n ∧ I m s₃) Nev s₂ else Q .next s₂) Nev s) :
    wpC (model prog w) A (exec (.While test body [] pos) env) Q Nev s := by
  show wpC _ A (do standAt pos; runOwn (.whileLoop test body [] env) env) Q Nev s
  refine wpC_step (wpAny_standAt ?_)
  unfold runOwn
  refine wpC_onRaise (wpC_run ?_)
  exact codeC_while (R := fun r s' => match r with | .ok f => Q f s' | .error e => Nev e s') I turn n s hI
theorem wpC_exprCall {e : Expr} {pos : Pos} {Q : Flow → Shared → Prop} (hi : interactive env = false) (hsw : swapsWith e none pos.line env = pure false) (h : wpC M A (eval e env) (fun v s' => v = .none ∧ Q .next s') E s) :
    wpC M A (exec (.Expr e pos) env) Q E s := by
  show wpC M A (do
    standAt pos
    if interactive env then printExpr (eval e env)
    else if ← swapsWith e none pos.line env then do evalThenUse e env fun _ => point; pure .next
    else do dropValue e pos (← eval e env)) Q E s
  refine wpC_step (wpAny_standAt ?_)
  rw [hi]
  refine wpC_step (wpAny_of_eq hsw ?_)
  refine wpC_bind (wpC_mono h (fun v s' x => ?_) fun _ _ x => x)
  obtain ⟨rfl, hq⟩ := x
  unfold dropValue
  cases e <;> exact wpC_pure hq
theorem wpC_return {e : Expr} {pos : Pos} {Q : Flow → Shared → Prop} (h : wpC M A (eval e env) (fun v s' => Q (.ret v) s') E s) : wpC M A (exec (.Return (some e) pos) env) Q E s := by
  show wpC M A (do standAt pos; return .ret (← eval e env)) Q E s
  exact wpC_step (wpAny_standAt (wpC_bind (wpC_mono h (fun _ _ x => wpC_pure x) fun _ _ x => x)))
theorem wpC_binop {l r : Expr} {op : Operator} {pos : Pos} {Q : Value → Shared → Prop} (h : wpC M A (eval l env) (fun v s' => wpAny M A (do let b ← holding [v] (eval r env); standAt pos; operate [v, b] (binaryOp op v b)) Q E s') E s) :
    wpC M A (eval (.BinOp l op r pos) env) Q E s := wpC_bind (wpC_mono h (fun _ _ x => wpC_of x) fun _ _ x => x)
end
end Mine
end

section
open PySem PySem.W PyProof.Rows PySem.Spec PySem.Calls
open Sem (wp)
set_option Elab.async false
set_option maxRecDepth 100000
set_option maxHeartbeats 40000000
namespace Mine
section
variable {M : Model} {prog : Program} {w : World} {A : Around} {E : Value → Shared → Prop} {s : Shared} {env : Env}
theorem wpC_assign {targets : List Expr} {value : Expr} {pos : Pos} {Q : Flow → Shared → Prop} (hsw : swapsWithSole targets value pos.line env = pure false)
    (h : wpC M A (eval value env) (fun v s' => wpAny M A (swappedStores targets value env >>= fun n => assignStores env v n ((assignEach targets env).map (·.2))) Q E s') E s) :
    wpC M A (exec (.Assign targets value pos) env) Q E s := by
  show wpC M A (do
    standAt pos
    if ← swapsWithSole targets value pos.line env then do
      evalThenUse value env fun v => assignAll v ((assignEach targets env).map (·.2))
      pure .next
    else do
      let v ← eval value env
      assignStores env v (← swappedStores targets value env) ((assignEach targets env).map (·.2))) Q E s
  refine wpC_step (wpAny_standAt (wpC_step (wpAny_of_eq hsw ?_)))
  exact wpC_bind (wpC_mono h (fun _ _ x => wpC_of x) fun _ _ x => x)
theorem wpC_assignSwap {targets : List Expr} {value : Expr} {pos : Pos} {names : List Str} {Q : Flow → Shared → Prop} (hsw : swapsWithSole targets value pos.line env = pure false) (hw : swappedStores targets value env = pure (some names))
    (h : wpC M A (eval value env) (fun v s' => wpAny M A (unpackItems v names.length none) (fun items s₁ => wpAny M A (assignInOrder (names.reverse.map fun n => bindName env n) items.reverse) (fun _ s₂ => Q .next s₂) E s₁) E s') E s) :
    wpC M A (exec (.Assign targets value pos) env) Q E s := by
  refine wpC_assign hsw (wpC_mono h (fun v s' x => ?_) fun _ _ x => x)
  refine wpAny_bind (wpAny_of_eq hw ?_)
  show wpAny M A (do
      rule "assign.swapped-stores"
      let items ← unpackItems v names.length none
      assignInOrder (names.reverse.map fun n => bindName env n) items.reverse
      pure .next) Q E s'
  exact wpAny_bind (wpAny_rule (wpAny_bind (wpAny_mono x (fun items s₁ y => wpAny_bind (wpAny_mono y (fun _ _ z => wpAny_pure z) fun _ _ z => z)) fun _ _ z => z)))
theorem wpC_spliced {x : Sem Value} {rest : List (Bool × Sem Value)} {Q : List Value → Shared → Prop} (h : wpC M A x (fun v s₁ => wpAny M A (spliced rest) (fun vs s₂ => Q (v :: vs) s₂) E s₁) E s) :
    wpC M A (spliced ((false, x) :: rest)) Q E s := by
  rw [spliced]
  refine wpC_bind (wpC_mono h (fun v s₁ x => ?_) fun _ _ x => x)
  refine wpC_step (wpAny_pure (a := [v]) ?_)
  exact wpC_step (wpAny_holding (wpAny_mono x (fun _ _ y => wpC_pure y) fun _ _ y => y))
theorem wpC_tuple {e : Expr} {rest : List Expr} {c : Nat} {pos : Pos} {Q : Value → Shared → Prop} (hs : backTo pos (starEach (e :: rest) env) = (false, eval e env) :: backTo pos (starEach rest env))
    (h : wpC M A (eval e env) (fun v s₁ => wpAny M A (spliced (backTo pos (starEach rest env))) (fun vs s₂ => wpAny M A (newTuple (v :: vs)) Q E s₂) E s₁) E s) : wpC M A (eval (.Tuple (e :: rest) c pos) env) Q E s := by
  show wpC M A (do standAt pos; newTuple (← spliced (backTo pos (starEach (e :: rest) env)))) Q E s
  rw [hs]
  refine wpC_step (wpAny_standAt (wpC_bind (wpC_mono (wpC_spliced (Q := fun vs s₂ => wpAny M A (newTuple vs) Q E s₂) h) (fun _ _ x => wpC_of x) fun _ _ x => x)))
theorem wpC_callName {n : Str} {np pos : Pos} {args : List Expr} {Q : Value → Shared → Prop} (h : wpAny M A (eval (.Name n np) env) (fun f s' => wpC M A (callWith pos f [] (backTo pos (starEach args env)) []) Q E s') E s) :
    wpC M A (eval (.Call (.Name n np) args [] pos) env) Q E s := wpC_step h
theorem wpC_method {n attr : Str} {np apos pos : Pos} {args : List Expr} {pl : Sem Bool} {Q : Value → Shared → Prop}
    (he : eval (.Call (.Attribute (.Name n np) attr apos) args [] pos) env = (do
      let ov ← eval (.Name n np) env
      standAt apos.atName
      let (f, first) ← holding [ov] (getMethod ov attr pl)
      callWith pos f first (backTo pos (starEach args env)) []))
    (h : wpAny M A (eval (.Name n np) env) (fun ov s₁ => wpAny M A (getMethod ov attr pl) (fun fx s₂ => wpC M A (callWith pos fx.1 fx.2 (backTo pos (starEach args env)) []) Q E s₂) E s₁) E s) :
    wpC M A (eval (.Call (.Attribute (.Name n np) attr apos) args [] pos) env) Q E s := by
  rw [he]
  exact wpC_step (wpAny_mono h (fun ov s₁ h₁ => wpC_step (wpAny_standAt (wpC_step (wpAny_holding h₁)))) fun _ _ x => x)
theorem wpC_callPos {pos : Pos} {f : Value} {first : List Value} {args : List (Bool × Sem Value)} {x : Sem Value} {rest : List (Bool × Sem Value)} {Q : Value → Shared → Prop}
    (ha : args = (false, x) :: rest) (hp : args.any (·.1) = false) (hlen : args.length ≤ 30)
    (h : wpAny M A (spliced args) (fun vs s₁ => (match f with | .ref x => ∃ o fd, s₁.heap.get? x = some o ∧ o.data = .func fd | _ => True) ∧ wpC M A (call f (first ++ vs) []) Q E s₁) E s) :
    wpC M A (callWith pos f first args []) Q E s := by
  refine wpC_callWith hp hlen ?_
  subst ha
  exact evalArgs_kw rfl (wpAny_mono h (fun vs s₁ h₁ => wpAny_evalAll_nil h₁) fun _ _ x => x)
theorem wpC_cut {t : Sem Flow} {Q : Flow → Shared → Prop} {h : Heap} {tk : Nat} (k : ∀ tk, wpC M A t Q E { s with heap := h, toks := tk }) : wpC M A t Q E { s with heap := h, toks := tk } := k tk
theorem fr_cut {g h : Heap} {L : Addr} {n : Str} {v : Int} {t : Tok} {m : Str → Option Value} (F : Fr g L h (fun y => if y = n then some (.int v t) else m y)) : ∃ t, Fr g L h (fun y => if y = n then some (.int v t) else m y) := ⟨t, F⟩
end
end Mine
end

section
open PySem PySem.W PyProof.Rows
set_option Elab.async false
set_option maxRecDepth 100000
namespace Mine
theorem and_apart {a n : Nat} (k : Nat) (h : n < 2 ^ k) : (2 ^ k * a) &&& n = 0 := by
  apply Nat.eq_of_testBit_eq
  intro i
  rw [Nat.testBit_and, Nat.zero_testBit, Nat.testBit_two_pow_mul]
  by_cases q : i ≥ k
  · rw [Nat.testBit_lt_two_pow (Nat.lt_of_lt_of_le h (Nat.pow_le_pow_right (by decide) q)), Bool.and_false]
  · rw [decide_eq_false q, Bool.false_and, Bool.false_and]
theorem or_low {head n : Int} (k : Nat) (h0 : 0 ≤ head) (hm : head % 2 ^ k = 0) (n0 : 0 ≤ n) (n1 : n < 2 ^ k) : Builtin.bitOr head n = head + n := by
  rw [bitOr_and, bitAnd_pp h0 n0]
  have e : head = ((2 ^ k * (head / 2 ^ k).toNat : Nat) : Int) := by
    have h1 := Int.mul_ediv_add_emod head (2 ^ k)
    have h2 : 0 ≤ head / 2 ^ k := Int.ediv_nonneg h0 (Int.le_of_lt (Int.pow_pos (by decide)))
    rw [hm, Int.add_zero] at h1
    rw [Int.natCast_mul, Int.toNat_of_nonneg h2, Int.natCast_pow]
    exact h1.symm
  have z : head.toNat &&& n.toNat = 0 := by
    rw [show head.toNat = 2 ^ k * (head / 2 ^ k).toNat by omega]
    refine and_apart k ?_
    have : ((2 ^ k : Nat) : Int) = 2 ^ k := Int.natCast_pow 2 k
    omega
  rw [z]
  omega
theorem or_in {head number bits : Int} (h : number < 1 * 2 ^ bits.toNat - 1) (n0 : 0 ≤ number) (h0 : 0 ≤ head) (hm : head % 2 ^ bits.toNat = 0) (h1 : head + 2 ^ bits.toNat ≤ 256) : KBa.In [Builtin.bitOr head number] := by
  intro z hz
  rw [List.mem_singleton.mp hz, or_low bits.toNat h0 hm n0 (by omega)]
  omega
theorem ints_push {b : Array UInt8} {x : Int} (h0 : 0 ≤ x) (h1 : x < 256) : KBw.bInts (b.push x.toNat.toUInt8) = KBw.bInts b ++ [x] := by
  have e : (((x.toNat.toUInt8).toNat : Nat) : Int) = x := by
    have h2 : (x.toNat.toUInt8).toNat = x.toNat % 256 := by simp [Nat.toUInt8]
    rw [h2]
    omega
  unfold KBw.bInts
  rw [Array.toList_push, List.map_append, List.map_cons, List.map_nil, e]
theorem fr_two {g h : Heap} {L : Addr} {m : Str → Option Value} {x y : Str} {v u : Value} (F : Fr g L h m) (hx : m x = some v) (hy : m y = some u) : Fr g L h (fun z => if z = x then some v else if z = y then some u else m z) := by
  have e : (fun z => if z = x then some v else if z = y then some u else m z) = m := by
    funext z
    split
    · rename_i q
      rw [q, hx]
    · split
      · rename_i q
        rw [q, hy]
      · rfl
  rw [e]
  exact F
section
variable {prog : Program} {w : World} {A : Around} {E : Value → Shared → Prop} {s : Shared} {h₀ : Heap} {L D : Addr} {m : Str → Option Value} {news : List (Addr × Obj)} {its : Array Value} {ns : List Int} {n : Nat}
theorem bytes_made {Q : Value → Shared → Prop} (F : Fr h₀ L s.heap m) (N : News h₀ L s.heap news) (hh : A.handled = none) (hm : (D, W.listOf its n) ∈ news) (hi : IntsAre its.toList ns) (hr : KBa.In ns) (hn : ns.length ≤ 1000)
    (h : ∀ b h' t' k, KBw.bInts b = ns → Fr h₀ L h' m → News h₀ L h' news → Q (.bytes b t') { s with heap := h', toks := k }) : wpAny (model prog w) A (call (.type "bytes") [.ref D]) Q E s :=
  KBa.make_K F N hh (vs := its.toList) ⟨_, (N _ hm).1, rfl, n, rfl⟩ hi hr (by omega) fun h' t' k F' N' hr' => h _ h' t' k (KBa.ints_make hr') F' N'
end
end Mine
end

section
open PySem PySem.W PyProof.Rows Builtin
open Sem (wp)
set_option Elab.async false
set_option maxRecDepth 100000
set_option maxHeartbeats 40000000
namespace Mine
theorem ba_mro : mroOf (.type "bytearray") = pure [.type "bytearray", .type "object"] := by rw [mroOf_type]; kernel_rfl
theorem ba_look_new : typeLookup (.type "bytearray") "__new__" = pure (some (.builtin "bytearray.__new__")) := by rw [typeLookup_type, builtinLookup_eq_fast]; kernel_rfl
theorem ba_sub : isSubtype (.type "bytearray") (.type "bytearray") = pure true := by rw [isSubtype_type]; kernel_rfl
theorem ba_slot_init : Slot "bytearray" "__init__" "bytearray.__init__" :=
  .of (owner := "bytearray") (n := "__init__") (by rw [typeLookup_type, builtinLookup_eq_fast]; kernel_rfl) (by decide +kernel) (by decide +kernel) (by decide +kernel)
    (by first | exact .inl (by decide +kernel) | exact .inr (by decide +kernel)) ba_sub
theorem ba_called : TypeCalled "bytearray" "bytearray.__new__" "bytearray.__init__" :=
  ⟨by decide +kernel, by decide +kernel, ⟨_, _, ba_mro⟩, madeBy_type ba_mro ba_look_new (by decide +kernel), by decide +kernel, ba_sub, ba_slot_init⟩
theorem ba_typeCall (a : Value) : checkTypeCall "bytearray" ⟨[a], []⟩ = pure () := by kernel_rfl
theorem ba_newCall (a : Value) : checkBuiltinCall "bytearray.__new__" ⟨[.type "bytearray", a], []⟩ = pure () := by kernel_rfl
theorem ba_plain_new : plainId "bytearray.__new__" = true := by decide +kernel
theorem ba_entry_new : entryFor table "bytearray.__new__" = some Builtin.«list.__new__» := entryFor_alias (id' := "list.__new__") (by rw [fastTable_eq_tree]; kernel_rfl) (by decide +kernel) (by decide +kernel) (by rw [fastTable_eq_tree]; kernel_rfl)
theorem ba_entry_init : entryFor table "bytearray.__init__" = some Builtin.«bytearray.__init__» := entryFor_of_tree (by kernel_rfl)
theorem ba_entry_append : entryFor table "bytearray.append" = some Builtin.«bytearray.append» := entryFor_of_tree (by kernel_rfl)
theorem ba_plain_append : plainId "bytearray.append" = true := by decide +kernel
set_option maxRecDepth 1000000 in
theorem ba_owner : ("bytearray.__new__".splitOn ".__new__").headD "" = "bytearray" := by simp +decide [String.splitOn, String.splitOnAux]
theorem ba_owners : Manifest.owners.lookup (String.ofList ['y', 'a', 'r', 'r', 'a', 'e', 't', 'y', 'b'].reverse) = some Manifest.sig_bytearray := by kernel_rfl
theorem ba_args_init (a b : Value) : argsOk "bytearray.__init__" ⟨[a, b], []⟩ := by
  unfold argsOk; rw [signature?_of (id := "bytearray.__init__") (n := ['_', '_', 't', 'i', 'n', 'i', '_', '_']) (o := ['y', 'a', 'r', 'r', 'a', 'e', 't', 'y', 'b']) (by kernel_rfl) ba_owners]; kernel_rfl
theorem ba_args_append (a b : Value) : argsOk "bytearray.append" ⟨[a, b], []⟩ := by
  unfold argsOk; rw [signature?_of (id := "bytearray.append") (n := ['d', 'n', 'e', 'p', 'p', 'a']) (o := ['y', 'a', 'r', 'r', 'a', 'e', 't', 'y', 'b']) (by kernel_rfl) ba_owners]; kernel_rfl
theorem ba_bind (v : Value) : Builtin.Bytes.bindOptional "bytearray.__init__" "bytearray" ["source", "encoding", "errors"] [v] [] = pure [some v, none, none] := by kernel_rfl
theorem ba_no_release : typeLookup (.type "bytearray") "__release_buffer__" = pure (some (.builtin "bytearray.__release_buffer__")) := by rw [typeLookup_type, builtinLookup_eq_fast]; kernel_rfl
theorem ba_no_bytes : typeLookup (.type "bytearray") "__bytes__" = pure none := by rw [typeLookup_type, builtinLookup_eq_fast]; kernel_rfl
theorem ba_no_index : typeLookup (.type "bytearray") "__index__" = pure none := by rw [typeLookup_type, builtinLookup_eq_fast]; kernel_rfl
theorem ba_buffer : typeLookup (.type "bytearray") "__buffer__" = pure (some (.builtin "bytearray.__buffer__")) := by rw [typeLookup_type, builtinLookup_eq_fast]; kernel_rfl
end Mine
end

section
open PySem PySem.W PyProof.Rows Builtin
open Sem (wp)
set_option Elab.async false
set_option maxRecDepth 100000
set_option maxHeartbeats 40000000
namespace Mine
abbrev baOf (b : Array UInt8) : Obj := { cls := .type "bytearray", data := .bytearray b }
section
variable {prog : Program} {w : World} {A : Around} {E : Value → Shared → Prop} {s : Shared} {D : Addr} {b : Array UInt8}
theorem ba_typeIs (h : s.heap.get? D = some (baOf b)) : s.TypeIs (.ref D) "bytearray" := ⟨_, h, rfl⟩
theorem ba_write {f : Array UInt8 → Array UInt8} {Q : Unit → Shared → Prop} (h : s.heap.get? D = some (baOf b)) (hz : (f b).size ≤ sizeLine)
    (hQ : ∀ h', h'.get? D = some (baOf (f b)) → Heap.SameBut D s.heap h' → Q () { s with heap := h' }) : wpAny (model prog w) A (Bytes.write (.ref D) f) Q E s := by
  unfold Bytes.write updateBytearray
  refine wpAny_bind (wpAny_load h ?_)
  have h2 : (s.heap.update D (Obj.mapBytearray f)).get? D = some (baOf (f b)) := Heap.get?_update_self (Obj.mapBytearray f) h rfl
  show wpAny _ _ (update D (Obj.mapBytearray f) >>= fun _ => lookBehind D) _ _ _
  refine wpAny_bind (wpAny_update h ?_)
  refine wpAny_lookBehind h2 ?_ (hQ _ h2 (Heap.SameBut.update ..))
  show (if (f b).size > sizeLine then some "bytearray:memory" else none) = none
  rw [if_neg (Nat.not_lt.mpr hz)]
theorem ba_release {Q : Bool → Shared → Prop} (h : s.heap.get? D = some (baOf b)) (hQ : Q false s) : wpAny (model prog w) A (Bytes.ownRelease (.ref D)) Q E s := by
  have key : ∀ x : String, x = "bytearray" → ∀ Q : Bool → Shared → Prop, Q true s → wpAny (model prog w) A (isInstance (.ref D) (.type x)) Q E s := fun x hx Q q => by
    rw [hx]
    exact wpAny_isInstance (ba_typeIs h) ba_sub q
  unfold Bytes.ownRelease Bytes.slotIsOwn
  refine wpAny_bind (wpAny_bind (wpAny_specialOf (ba_typeIs h) ba_no_release ?_))
  dsimp only
  refine bm_if_false (by decide +kernel) ?_
  refine key _ (by decide +kernel) _ ?_
  exact wpAny_pure hQ
theorem ba_exports {Q : Nat → Shared → Prop} (h : s.heap.get? D = some (baOf b)) (hQ : Q 0 s) : wpAny (model prog w) A (Bytes.exportsOf (.ref D)) Q E s := by
  unfold Bytes.exportsOf
  exact wpAny_bind (wpAny_load h (wpAny_pure hQ))
theorem ba_free {Q : Bool → Shared → Prop} (hg : A.guards = some []) (h : s.heap.get? D = some (baOf b)) (hQ : Q false s) :
    wpC (model prog w) A (Bytes.exported (.ref D) <||> (do return (← Bytes.exportsOf (.ref D)) > 0)) Q E s := by
  show wpC _ _ (orM _ _) _ _ _
  unfold orM
  refine wpC_bind (wpC_exported hg ?_)
  refine wpC_of ?_
  show wpAny _ _ (Bytes.exportsOf (.ref D) >>= _) _ _ _
  exact wpAny_bind (ba_exports h (wpAny_pure hQ))
theorem ba_new_code {a : Value} {Q : Value → Shared → Prop} (h : Q (.ref s.heap.objs.size) { s with heap := s.heap.push (baOf #[]) }) :
    codeAny (model prog w) A (.call (.builtin "bytearray.__new__") ⟨[.type "bytearray", a], []⟩) (wants Q E) s := by
  refine codeAny_of_tree ?_
  show wpAny _ A.in1 (do checkBuiltinCall "bytearray.__new__" ⟨[.type "bytearray", a], []⟩; again (.builtin "bytearray.__new__" ⟨[.type "bytearray", a], []⟩)) _ _ s
  refine wpAny_bind (wpAny_of_eq (ba_newCall a) (wpAny_pure ⟨plainId_quiet ba_plain_new _, codeAny_builtin_stack ba_entry_new rfl fun p st => ?_⟩))
  rw [Around.under_plainId ba_plain_new _]
  have hsub := ba_sub
  have hown := ba_owner
  obtain ⟨hp, g, d, tk, os⟩ := s
  simp only [hown]
  wp_walk
  exact h
end
end Mine
end

section
open PySem PySem.W PyProof.Rows Builtin
open Sem (wp)
set_option Elab.async false
set_option maxRecDepth 100000
set_option maxHeartbeats 40000000
namespace Mine
section
variable {prog : Program} {w : World} {A : Around} {E : Value → Shared → Prop} {s : Shared} {D l : Addr} {b : Array UInt8}
theorem wpC_if_false {α : Type} {M : Model} {c : Bool} {a b : Sem α} {Q : α → Shared → Prop} (hc : c = false) (h : wpC M A b Q E s) : wpC M A (if c = true then a else b) Q E s := by
  subst hc
  exact h
theorem wpC_if_true {α : Type} {M : Model} {c : Bool} {a b : Sem α} {Q : α → Shared → Prop} (hc : c = true) (h : wpC M A a Q E s) : wpC M A (if c = true then a else b) Q E s := by
  subst hc
  exact h
theorem ba_init {x : Int} {t : Tok} {n : Nat} {Q : Fin → Shared → Prop} (hg : A.guards = some []) (hD : s.heap.get? D = some (baOf b)) (hl : s.heap.get? l = some (W.listOf #[.int x t] n)) (h0 : 0 ≤ x) (h1 : x < 256)
    (hQ : ∀ h', h'.get? D = some (baOf #[x.toNat.toUInt8]) → Heap.ExtBut D s.heap h' → Q (.done (.ret .none)) { s with heap := h' }) :
    wpC (model prog w) A (Builtin.«bytearray.__init__» ⟨[.ref D, .ref l], []⟩) Q E s := by
  have hne : l ≠ D := fun e => absurd (hl.symm.trans (e ▸ hD)) (fun q => absurd (congrArg (fun o : Option Obj => o.map (·.cls)) q) (by simp [W.listOf]))
  unfold Builtin.«bytearray.__init__»
  refine wpC_step (ba_release hD ?_)
  refine wpC_if_false rfl ?_
  refine wpC_step (wpAny_of_eq (ba_bind _) ?_)
  refine wpC_step (wpAny_of_eq (a := ()) rfl ?_)
  refine wpC_step (wpAny_of_eq (a := ()) rfl ?_)
  refine wpC_bind (ba_free hg hD ?_)
  refine wpC_if_false rfl ?_
  refine wpC_step (ba_write hD (Nat.zero_le _) fun h1' hD1 hs1 => ?_)
  have hl1 : h1'.get? l = some (W.listOf #[.int x t] n) := (hs1.2 l hne).trans hl
  have hT1 : ({ s with heap := h1' } : Shared).TypeIs (.ref l) "list" := ⟨_, hl1, rfl⟩
  refine wpC_of ?_
  refine wpAny_bind (wpAny_bind (wpAny_load hl1 (wpAny_pure ?_)))
  refine bm_if_false rfl ?_
  refine wpAny_bind (wpAny_of_eq (a := ()) rfl ?_)
  refine wpAny_bind (wpAny_specialOf hT1 PySem.F.bm_no_index ?_)
  refine bm_if_false rfl ?_
  refine wpAny_bind ?_
  unfold Bytes.buffer?
  refine wpAny_bind (wpAny_specialOf hT1 PySem.F.bm_no_buffer ?_)
  refine wpAny_bind (wpAny_specialOf hT1 PySem.F.bm_no_buffer ?_)
  refine wpAny_pure ?_
  dsimp only
  refine wpAny_bind (wpAny_typeOf ⟨_, hl1, rfl⟩ ?_)
  refine bm_if_true rfl ?_
  refine wpAny_bind (wpAny_seqItems hl1 rfl ?_)
  dsimp only
  have hok : (decide (0 ≤ x) && decide (x < 256)) = true := by simp [h0, h1]
  simp only [List.takeWhile_cons, hok, if_true, List.takeWhile_nil]
  refine wpAny_bind (wpAny_rule ?_)
  refine wpAny_bind (ba_write hD1 (by show 1 ≤ sizeLine; rw [sizeLine_eq]; decide) fun h2' hD2 hs2 => ?_)
  exact wpAny_pure (hQ h2' hD2 fun b o hb e => (hs2.2 b hb).trans ((hs1.2 b hb).trans e))
theorem den_builtin {id : String} {args : Args} {b : Builtin} (hb : entryFor table id = some b) : (model prog w).den (.builtin id args) = b args := by
  show (match entryFor table id with | some b => b args | none => unsupported ((withoutEnding? id "#data").getD id)) = b args
  rw [hb]
theorem ba_call {x : Int} {t : Tok} {n : Nat} {Q : Value → Shared → Prop} (hg : A.guards = some []) (hl : s.heap.get? l = some (W.listOf #[.int x t] n)) (h0 : 0 ≤ x) (h1 : x < 256)
    (hQ : ∀ h' D, h'.get? D = some (baOf #[x.toNat.toUInt8]) → s.heap.get? D = none → (∀ b o, s.heap.get? b = some o → h'.get? b = some o) → Q (.ref D) { s with heap := h' }) :
    wpC (model prog w) A (call (.type "bytearray") [.ref l]) Q Nev s := by
  refine wpC_call (codeC_tree ?_)
  show wpC _ _ (callAny (.type "bytearray") _) _ _ _
  refine wpC_pure ⟨Code.quiet_builtin _ (by decide +kernel), (show Builtin.Bytes.decodersThatHold.contains "type.__call__" = false by decide +kernel), codeC_tree ?_⟩
  rw [Around.under_plain (weight_type_call_type "bytearray" _ []) (units_type_call_type "bytearray" _ [])]
  rw [den_builtin PySem.F.entry_type_call]
  unfold Builtin.«type.__call__»
  refine wpC_if_false (by decide +kernel) ?_
  dsimp only
  refine wpC_if_false ba_called.canCreate ?_
  refine wpC_step (wpAny_of_eq (ba_typeCall _) ?_)
  refine wpC_step (wpAny_of_eq ba_mro ?_)
  refine wpC_if_false rfl ?_
  refine wpC_step (wpAny_of_eq ba_called.made ?_)
  dsimp only
  refine wpC_step (wpAny_pure ?_)
  refine wpC_step (wpAny_holding (wpAny_call (ba_new_code ?_)))
  have hD : (s.heap.push (baOf #[])).get? s.heap.objs.size = some (baOf #[]) := Heap.get?_push_size _ rfl
  have hl2 : (s.heap.push (baOf #[])).get? l = some (W.listOf #[.int x t] n) := Heap.get?_push_of_some _ hl
  have hfresh : s.heap.get? s.heap.objs.size = none := by
    cases q : s.heap.get? s.heap.objs.size with
    | none => rfl
    | some o => exact absurd (Heap.lt_size q) (Nat.lt_irrefl _)
  have hT : ({ s with heap := s.heap.push (baOf #[]) } : Shared).TypeIs (.ref s.heap.objs.size) "bytearray" := ⟨_, hD, rfl⟩
  refine wpC_step (wpAny_isInstance hT ba_sub ?_)
  refine wpC_if_false rfl ?_
  refine wpC_bind (wpC_holding ?_)
  unfold callSpecial?
  refine wpC_step (wpAny_specialOf hT ba_slot_init.lookup ?_)
  dsimp only
  refine wpC_holding ?_
  refine wpC_step (wpAny_of_eq (ba_slot_init.bind _) ?_)
  dsimp only
  refine wpC_bind (wpC_call (codeC_tree ?_))
  show wpC _ A.in1.in1 (do checkBuiltinCall "bytearray.__init__" ⟨[.ref s.heap.objs.size, .ref l], []⟩; again (.builtin "bytearray.__init__" ⟨[.ref s.heap.objs.size, .ref l], []⟩)) _ _ _
  refine wpC_step (ba_slot_init.check _ _ _ _ _ _ _ _ hT (ba_args_init _ _) ?_)
  refine wpC_pure ⟨plainId_quiet ba_slot_init.plain _, (show Builtin.Bytes.decodersThatHold.contains "bytearray.__init__" = false by decide +kernel), codeC_tree ?_⟩
  rw [Around.under_plainId ba_slot_init.plain _, den_builtin ba_entry_init]
  refine ba_init hg hD hl2 h0 h1 fun h' hD' hk => ?_
  refine wpC_pure ?_
  refine wpC_if_false rfl ?_
  refine wpC_pure (hQ h' _ hD' hfresh fun b o hb => ?_)
  exact hk b o (fun e => by rw [e, hfresh] at hb; cases hb) (Heap.get?_push_of_some _ hb)
end
end Mine
end

section
open PySem PySem.W PyProof.Rows Builtin
open Sem (wp)
set_option Elab.async false
set_option maxRecDepth 100000
set_option maxHeartbeats 40000000
namespace Mine
theorem ba_slot_append : Slot "bytearray" "append" "bytearray.append" :=
  .of (owner := "bytearray") (n := "append") (by rw [typeLookup_type, builtinLookup_eq_fast]; kernel_rfl) (by decide +kernel) (by decide +kernel) (by decide +kernel)
    (by first | exact .inl (by decide +kernel) | exact .inr (by decide +kernel)) ba_sub
theorem ba_type_append : typeOf (.builtin "bytearray.append") = pure (.type "method_descriptor") := by show builtinType _ = _; rw [builtinType_eq_fast]; kernel_rfl
section
variable {prog : Program} {w : World} {A : Around} {E : Value → Shared → Prop} {s : Shared} {D l : Addr} {b : Array UInt8}
theorem ba_append {x : Int} {t : Tok} {Q : Value → Shared → Prop} (hg : A.guards = some []) (hD : s.heap.get? D = some (baOf b)) (h0 : 0 ≤ x) (h1 : x < 256) (hz : b.size < 1000)
    (hQ : ∀ h', h'.get? D = some (baOf (b.push x.toNat.toUInt8)) → Heap.SameBut D s.heap h' → Q .none { s with heap := h' }) :
    wpC (model prog w) A (call (.builtin "bytearray.append") [.ref D, .int x t]) Q Nev s := by
  refine wpC_call (codeC_tree ?_)
  show wpC _ A.in1 (do checkBuiltinCall "bytearray.append" ⟨[.ref D, .int x t], []⟩; again (.builtin "bytearray.append" ⟨[.ref D, .int x t], []⟩)) _ _ _
  refine wpC_step (ba_slot_append.check _ _ _ _ _ _ _ _ (ba_typeIs hD) (ba_args_append _ _) ?_)
  refine wpC_pure ⟨plainId_quiet ba_plain_append _, (show Builtin.Bytes.decodersThatHold.contains "bytearray.append" = false by decide +kernel), codeC_tree ?_⟩
  rw [Around.under_plainId ba_plain_append _, den_builtin ba_entry_append]
  unfold Builtin.«bytearray.append»
  refine wpC_step (wpAny_of_eq (a := (.ref D, .int x t)) rfl ?_)
  dsimp only
  refine wpC_step ?_
  unfold Bytes.byteValue
  refine wpAny_bind (wpAny_of_eq (a := x) rfl ?_)
  refine bm_if_false (by simp only [Bool.or_eq_false_iff, decide_eq_false_iff_not]; omega) ?_
  refine wpAny_pure ?_
  unfold Bytes.checkResize
  refine wpC_bind ?_
  refine wpC_bind (ba_free hg hD ?_)
  refine wpC_if_false rfl ?_
  refine wpC_pure ?_
  refine wpC_step (ba_write hD (by rw [Array.size_push, sizeLine_eq]; omega) fun h' hD' hs => ?_)
  exact wpC_pure (hQ h' hD' hs)
end
end Mine
end

section
open PySem PySem.W PyProof.Rows Builtin
open Sem (wp)
set_option Elab.async false
set_option maxRecDepth 100000
set_option maxHeartbeats 40000000
namespace Mine
theorem ba_plainAttrs : PlainAttrs "bytearray" :=
  ⟨⟨"bytearray.__getattribute__", by rw [typeLookup_type, builtinLookup_eq_fast]; kernel_rfl, by decide +kernel⟩, by rw [typeLookup_type, builtinLookup_eq_fast]; kernel_rfl⟩
section
variable {prog : Program} {w : World} {A : Around} {E : Value → Shared → Prop} {s : Shared} {D l : Addr} {b : Array UInt8}
theorem ba_getMethod {pl : Sem Bool} {Q : Value × List Value → Shared → Prop} (hD : s.heap.get? D = some (baOf b)) (h : Q (.builtin "bytearray.append", [.ref D]) s) : wpAny (model prog w) A (getMethod (.ref D) "append" pl) Q E s :=
  getMethod_builtin (ba_typeIs hD) ba_plainAttrs ba_slot_append ba_type_append (fun a e => by cases e; exact ⟨_, hD, rfl⟩) h
theorem ba_buf {Q : Option (Array UInt8) → Shared → Prop} (hD : s.heap.get? D = some (baOf b)) (h : Q (some b) s) : wpAny (model prog w) A (Bytes.buffer? "bytes.__new__" (.ref D) true) Q E s := by
  have key : ∀ x : String, x = "bytearray" → ∀ Q : Bool → Shared → Prop, Q true s → wpAny (model prog w) A (isInstance (.ref D) (.type x)) Q E s := fun x hx Q q => by
    rw [hx]
    exact wpAny_isInstance (ba_typeIs hD) ba_sub q
  unfold Bytes.buffer?
  refine wpAny_bind (wpAny_specialOf (ba_typeIs hD) ba_buffer ?_)
  dsimp only
  refine wpAny_bind ?_
  unfold Bytes.slotIsOwn
  refine wpAny_bind (wpAny_specialOf (ba_typeIs hD) ba_buffer ?_)
  dsimp only
  refine bm_if_false (by decide +kernel) ?_
  refine key _ (by decide +kernel) _ ?_
  refine bm_if_false rfl ?_
  refine wpAny_bind (wpAny_specialOf (ba_typeIs hD) ba_buffer ?_)
  try dsimp only
  refine wpAny_bind (ba_release hD ?_)
  refine bm_if_false rfl ?_
  refine wpAny_bind ?_
  unfold Bytes.payload Bytes.payload?
  exact wpAny_bind (wpAny_bind (wpAny_load hD (wpAny_pure (wpAny_pure (wpAny_pure h)))))
theorem ba_to_bytes_new {Q : Value → Shared → Prop} (hD : s.heap.get? D = some (baOf b)) (hz : b.size ≤ sizeLine) (hQ : ∀ t k, Q (.bytes b t) { s with toks := k }) :
    codeAny (model prog w) A (.call (.builtin "bytes.__new__") ⟨[.type "bytes", .ref D], []⟩) (wants Q E) s := by
  have hT := ba_typeIs hD
  refine codeAny_of_tree ?_
  show wpAny _ A.in1 (do checkBuiltinCall "bytes.__new__" ⟨[.type "bytes", .ref D], []⟩; again (.builtin "bytes.__new__" ⟨[.type "bytes", .ref D], []⟩)) _ _ s
  refine wpAny_bind (wpAny_of_eq (PySem.F.bm_newCall _) (wpAny_pure ⟨plainId_quiet PySem.F.bm_plain _, codeAny_builtin PySem.F.bm_entry ?_⟩))
  rw [Around.under_plainId PySem.F.bm_plain _]
  unfold Builtin.«bytes.__new__»
  refine wpAny_bind (wpAny_of_eq (a := true) rfl ?_)
  refine bm_if_false rfl ?_
  refine wpAny_bind (wpAny_of_eq PySem.F.bm_sub ?_)
  refine bm_if_false rfl ?_
  refine wpAny_bind (wpAny_of_eq (PySem.F.bm_bind _) ?_)
  refine wpAny_bind (wpAny_of_eq (a := ()) rfl ?_)
  refine wpAny_bind (wpAny_of_eq (a := ()) rfl ?_)
  refine bm_if_false rfl ?_
  refine wpAny_bind (wpAny_specialOf hT ba_no_bytes ?_)
  refine wpAny_bind (wpAny_bind ?_)
  show wpAny _ _ (load D >>= _) _ _ _
  refine wpAny_bind (wpAny_load hD ?_)
  refine wpAny_pure (wpAny_pure ?_)
  refine bm_if_false rfl ?_
  refine wpAny_bind (wpAny_specialOf hT ba_no_index ?_)
  refine bm_if_true rfl ?_
  first
    | show wpAny _ _ (Builtin.Bytes.buffer? "bytes.__new__" (.ref D) true >>= _) _ _ _
    | (refine wpAny_bind ?_; show wpAny _ _ (Builtin.Bytes.buffer? "bytes.__new__" (.ref D) true >>= _) _ _ _)
  refine wpAny_bind (ba_buf hD ?_)
  try dsimp only
  refine wpAny_bind (wpAny_rule ?_)
  refine wpAny_bind (wpAny_mkBytes ?_ hz)
  show wpAny _ _ (if (Value.type "bytes" == Value.type "bytes") = true then _ else _) _ _ _
  refine bm_if_true (by decide) ?_
  first
    | exact wpAny_pure (hQ _ _)
    | exact wpAny_bind (wpAny_pure (wpAny_pure (hQ _ _)))
theorem ba_to_bytes {Q : Value → Shared → Prop} (hD : s.heap.get? D = some (baOf b)) (hz : b.size ≤ sizeLine) (hQ : ∀ t k, Q (.bytes b t) { s with toks := k }) : wpAny (model prog w) A (call (.type "bytes") [.ref D]) Q E s := by
  refine callType_codes (Q₁ := fun obj s₁ => s₁.TypeIs obj "bytes" ∧ Q obj s₁) PySem.F.bm_called (PySem.F.bm_typeCall _) PySem.F.entry_object_init (ba_to_bytes_new hD hz fun t k => ⟨PySem.W.typeIs_bytes _ _ _, hQ t k⟩) fun obj s₁ h₁ => ?_
  exact ⟨h₁.1, PySem.F.args_object_init_2 obj _, object_init_meets PySem.F.bm_called.init.lookup PySem.F.bm_called.made (by decide) prog w A.in1 _ s₁ ⟨h₁.1, rfl, h₁.2⟩⟩
theorem fr_ba {g h h' : Heap} {L : Addr} {m : Str → Option Value} {o : Obj} {rest : List (Addr × Obj)} (F : Fr g L h m) (N : News g L h ((D, o) :: rest)) (hs : Heap.SameBut D h h') : Fr g L h' m := by
  obtain ⟨oL, es, ep, ho, hd, r⟩ := F.ns
  have hne : L ≠ D := fun q => (N _ (.head _)).2.1 q.symm
  refine ⟨⟨oL, es, ep, (hs.2 L hne).trans ho, hd, r⟩, fun b o e => ?_, F.above⟩
  have hb : b ≠ D := fun q => by
    have := (N _ (.head _)).2.2
    dsimp only at this
    rw [← q, e] at this
    cases this
  exact (hs.2 b hb).trans (F.keep b o e)
theorem news_ba {g h h' : Heap} {L : Addr} {m : Str → Option Value} {o o' : Obj} (_F : Fr g L h m) (N : News g L h [(D, o)]) (hD : h'.get? D = some o') (_hs : Heap.SameBut D h h') : News g L h' [(D, o')] := fun p hp => by
  rw [List.mem_singleton.mp hp]
  exact ⟨hD, (N _ (.head _)).2.1, (N _ (.head _)).2.2⟩
end
end Mine
end

section
open PySem PySem.W PyProof.Rows PySem.Spec PySem.Calls
set_option Elab.async false
set_option maxRecDepth 100000
set_option maxHeartbeats 40000000
namespace Mine
local macro_rules | `(tactic| walk_at "no such key") => `(tactic| skip)
theorem fillPrefix1 : ∀ (o : OpenLaw) (f : Params → Frag), o = Challenge.rw_no0050_01 → f = hd.heap_39 → True := by
  k_fill
  w_top off
  intros; trivial
local macro_rules | `(tactic| walk_at "call type:bytes") => `(tactic| (k_here; (with_reducible show wpAny _ _ (call (Value.type "bytes") [Value.ref _]) _ _ _); k_dflt (refine' bytes_made ?F ?N ?h ?m ?i ?r ?z ?_; (case F => k_asm); (case N => k_asm); (case h => rfl); (case m => k_mem); (case i => exact IntsAre.cons _ _ IntsAre.nil); (case r => exact or_in (by assumption) (by assumption) (by assumption) (by assumption) (by assumption)); (case z => exact Nat.le_of_ble_eq_true rfl)); intro b9 h' t9 k9 hb9 F' N'))
theorem prefix_tells {w : World} {mean : ExcName → Option Value} {mg mb : Str → Option Value}
  {dp un : Nat} {env : Env} {outer : List Env} {base : Heap} {s : Shared} {Q : Value → Shared → Prop}
  {nt bt ht : Tok} {number bits head : Int}
  (C : Ctx w mean mg mb base s.heap (env :: outer)) (hdp : dp + 4 < recursionLimit) (hun : un + 32 < cLine)
  (hn0 : 0 ≤ number) (hn1 : number < 2 ^ 63) (hb0 : 1 ≤ bits) (hb1 : bits ≤ 8) (hh0 : 0 ≤ head) (hh1 : head + 2 ^ bits.toNat ≤ 256) (hh2 : head % 2 ^ bits.toNat = 0)
  (hret : ∀ b t h' tk', Keeps s.heap h' → KBw.bInts b = written number bits.toNat head → Q (.bytes b t) { s with heap := h', toks := tk' })
   :
  wpC (MM w) (AR dp un (some []) env outer) (call (.ref 61) [.int number nt, .int bits bt, .int head ht]) Q Nev s := by
    refine wpC_call ?_
    k_dflt (refine' enterC ?k1 ?kA ?k6 ?k7 ?k8 ?k9 ?kB ?_ ?c2 ?c3 ?c4 ?c5; (case kA => exact rfl); (case k1 => assumption); (case k6 => k_is); (case k7 => k_is); (case k8 => ktr_room); (case k9 => exact BindsTo.of_eq rfl); (case c5 => decide); (case kB => exact locs rfl); (case c2 => exact rfl); (case c3 => exact rfl); (case c4 => exact rfl); k_whole; intro g' L' h' hg' F' N' B' X' T'; (try dsimp only); (try k_fold))
    have C' : Ctx w mean mg mb base g' (env :: outer) := hg' ▸ C
    have hp9 := pow_bits hb0 hb1
    refine wpC_execs_cons (wpC_of ?_)
    k_steps
    refine wpC_execs_cons (wpC_of ?_)
    k_steps
    · rename number < _ => hlt
      rename KBw.bInts _ = _ => hb
      rename Fr _ _ _ _ => FF
      refine hret _ _ _ _ (fun b o hb => FF.keep b o (hg' ▸ hb)) ?_
      rw [hb]
      unfold written
      rw [if_pos (by omega), or_low bits.toNat hh0 hh2 hn0 (by omega)]
    · rename ¬ (number < _) => hlt
      refine wpC_execs_cons (wpC_assignSwap rfl rfl (wpC_tuple rfl (wpC_callName ?_)))
      k_steps
      refine wpC_callPos rfl rfl (Nat.le_of_ble_eq_true rfl) ?_
      k_steps
      · trivial
      · rename Fr _ _ _ _ => FF
        rename News _ _ _ _ => NN
        have hor : Builtin.bitOr head (1 * 2 ^ bits.toNat - 1) = head + (2 ^ bits.toNat - 1) := by
          rw [Int.one_mul, or_low bits.toNat hh0 hh2 (by omega) (by omega)]
        refine ba_call rfl (NN.get (.head _)) (by rw [hor]; omega) (by rw [hor]; omega) ?_
        intro h2 D hD hn hk
        rw [hor] at hD
        have F2 := FF.keeps hk
        have N2 := news_in FF NN hk hn hD
        clear FF NN hk
        k_steps
        rename Fr _ _ _ _ => FF
        rename News _ _ _ _ => NN
        have FI := fr_two (x := Str.ofString "found") (y := Str.ofString "left") FF rfl rfl
        have hDI := NN.get (.tail _ (.head _))
        have hgD := NN.fresh (.tail _ (.head _))
        refine wpC_execs_cons (wpC_while (fun n s₁ => ∃ (b : Array UInt8) (left : Int) (t : Tok) (h : Heap) (tk : Nat) (u : Str → Option Value), s₁ = { s with heap := h, toks := tk } ∧
          Fr g' L' h (fun z => if z = Str.ofString "found" then some (.ref D) else if z = Str.ofString "left" then some (.int left t) else u z) ∧ News g' L' h [(D, baOf b)] ∧ n = left.toNat ∧ 0 ≤ left ∧ left < 2 ^ 63 ∧ b.size ≤ 11 ∧
          KBw.bInts b ++ tl left = (head + (2 ^ bits.toNat - 1)) :: tl (number - (2 ^ bits.toNat - 1))) (number - (1 * 2 ^ bits.toNat - 1)).toNat ⟨#[(head + (2 ^ bits.toNat - 1)).toNat.toUInt8], number - (1 * 2 ^ bits.toNat - 1), _, _, _, _, rfl, FI, ?_, rfl, by omega, by omega, Nat.le_of_ble_eq_true rfl, ?_⟩ ?_)
        · intro p hp
          rw [List.mem_singleton.mp hp]
          exact NN _ (.tail _ (.head _))
        · rw [Int.one_mul]
          have := ints_push (b := #[]) (x := head + (2 ^ bits.toNat - 1)) (by omega) (by omega)
          rw [show (#[] : Array UInt8).push (head + (2 ^ bits.toNat - 1)).toNat.toUInt8 = #[(head + (2 ^ bits.toNat - 1)).toNat.toUInt8] from rfl] at this
          rw [this]
          rfl
        · clear FF NN FI hDI hgD
          rintro n s₁ ⟨b, left, t, h, tk, u, rfl, FW, NW, hn, p0, p1, p2, p3⟩
          k_steps
          · rename 128 ≤ left => hlo
            refine wpC_execs_cons (wpC_exprCall rfl rfl (wpC_method rfl ?_))
            k_steps
            refine ba_getMethod (NW.get (.head _)) ?_
            refine wpC_callPos rfl rfl (Nat.le_of_ble_eq_true rfl) ?_
            k_steps
            · trivial
            · have hm2 : Int.fmod left 128 = left % 128 := Int.fmod_eq_emod_of_nonneg _ (by decide)
              have hf2 : Int.fdiv left 128 = left / 128 := Int.fdiv_eq_ediv_of_nonneg _ (by decide)
              refine ba_append rfl (NW.get (.head _)) (by rw [hm2]; omega) (by rw [hm2]; omega) (by omega) fun h3 hD3 hs3 => ⟨rfl, ?_⟩
              have NW3 := news_ba FW NW hD3 hs3
              have FW3 := fr_ba FW NW hs3
              rw [hm2] at NW3
              clear FW NW hD3 hs3
              refine wpC_execs_cons (wpC_of ?_)
              k_steps
              rename Fr _ _ _ _ => FF
              rename News _ _ _ _ => NN
              have FI := fr_two (x := Str.ofString "found") (y := Str.ofString "left") FF rfl rfl
              refine wpC_execs_nil ⟨rfl, (left / 128).toNat, by omega, b.push (128 + left % 128).toNat.toUInt8, Int.fdiv left 128, _, _, _, _, rfl, FI, NN, by rw [hf2], by rw [hf2]; omega, by rw [hf2]; omega, ?_, ?_⟩
              · have hlen := congrArg List.length p3
                rw [tl_step (by omega)] at hlen
                simp only [List.length_append, List.length_cons, KBw.ints_length] at hlen
                have := tl_len10 (x := number - (2 ^ bits.toNat - 1)) (by omega) (by omega)
                rw [Array.size_push]
                omega
              · rw [ints_push (by omega) (by omega), hf2, ← p3, tl_step (show 127 < left by omega), List.append_assoc, Int.add_comm 128]
                rfl
          · rename ¬ 128 ≤ left => hlo
            dsimp only
            refine wpC_execs_cons (wpC_exprCall rfl rfl (wpC_method rfl ?_))
            k_steps
            refine ba_getMethod (NW.get (.head _)) ?_
            refine wpC_callPos rfl rfl (Nat.le_of_ble_eq_true rfl) ?_
            k_steps
            · trivial
            · refine ba_append rfl (NW.get (.head _)) (by omega) (by omega) (by omega) fun h3 hD3 hs3 => ⟨rfl, ?_⟩
              have NW3 := news_ba FW NW hD3 hs3
              have FW3 := fr_ba FW NW hs3
              clear FW NW hD3 hs3
              refine wpC_execs_cons (wpC_of ?_)
              k_steps
              rename Fr _ _ _ _ => FF
              rename News _ _ _ _ => NN
              refine ba_to_bytes (NN.get (.head _)) (by rw [Array.size_push, sizeLine_eq]; omega) fun t9 k9 => ?_
              refine hret _ _ _ _ (fun b o hb => FF.keep b o (hg' ▸ hb)) ?_
              rw [ints_push (by omega) (by omega)]
              unfold written
              rw [if_neg (by omega), ← p3, tl_stop (by omega)]
end Mine
end

section
open PySem PySem.W PyProof.Rows PySem.Spec PySem.Calls
set_option Elab.async false
set_option maxRecDepth 100000
set_option maxHeartbeats 40000000
namespace Mine
theorem fillPtext1 : ∀ (o : OpenLaw) (f : Params → Frag), o = Challenge.rw_no0050_01 → f = hd.heap_39 → True := by
  k_fill
  w_top off
  intros; trivial
local macro_rules | `(tactic| walk_at "And") => `(tactic| (refine stop_at ?_))
theorem fn_at {K : Frag} {h : Heap} {f : Addr} {oc : Value} {od : Option Addr} {fd : FuncData} {osl : Array (Option Value)} (X : K.In h) (ho : K.lookup f = some ⟨oc, od, .func fd, osl⟩) : ∃ o fd, h.get? f = some o ∧ o.data = .func fd := ⟨_, _, X _ _ ho, rfl⟩
theorem ptext_tells {w : World} {mean : ExcName → Option Value} {mg mb : Str → Option Value}
  {dp un : Nat} {env : Env} {outer : List Env} {base : Heap} {s : Shared} {Q : Value → Shared → Prop}
  {data : Array UInt8} {ks : List Int} {dt bt ht : Tok} {bits head : Int}
  (C : Ctx w mean mg mb base s.heap (env :: outer)) (hdp : dp + 6 < recursionLimit) (hun : un + 64 < cLine)
  (hD : KBw.bInts data = ks) (hsz : ks.length ≤ 1000) (hb0 : 1 ≤ bits) (hb1 : bits ≤ 8) (hh0 : 0 ≤ head) (hh1 : head + 2 ^ bits.toNat ≤ 256) (hh2 : head % 2 ^ bits.toNat = 0)
  (hret : ∀ b t h' tk', Keeps s.heap h' → KBw.bInts b = written ks.length bits.toNat head ++ ks → Q (.bytes b t) { s with heap := h', toks := tk' })
   :
  wpC (MM w) (AR dp un (some []) env outer) (call (.ref 75) [.bytes data dt, .int bits bt, .int head ht]) Q Nev s := by
    refine wpC_call ?_
    k_dflt (refine' enterC ?k1 ?kA ?k6 ?k7 ?k8 ?k9 ?kB ?_ ?c2 ?c3 ?c4 ?c5; (case kA => exact rfl); (case k1 => assumption); (case k6 => k_is); (case k7 => k_is); (case k8 => ktr_room); (case k9 => exact BindsTo.of_eq rfl); (case c5 => decide); (case kB => exact locs rfl); (case c2 => exact rfl); (case c3 => exact rfl); (case c4 => exact rfl); k_whole; intro g' L' h' hg' F' N' B' X' T'; (try dsimp only); (try k_fold))
    have C' : Ctx w mean mg mb base g' (env :: outer) := hg' ▸ C
    refine wpC_execs_cons (wpC_return (wpC_binop (wpC_callName ?_)))
    k_steps
    refine wpC_callPos rfl rfl (Nat.le_of_ble_eq_true rfl) ?_
    k_steps
    unfold Stop
    rename Fr _ _ _ _ => FF
    rename News _ _ _ _ => NN
    refine ⟨fn_at (X'.keeps FF.keep) (by k_is), ?_⟩
    refine' prefix_tells ?C ?d ?u ?n0 ?n1 hb0 hb1 hh0 hh1 hh2 ?hr
    case C => exact ctx_push C' B' FF rfl rfl
    case d => ktr_room
    case u => ktr_units
    case n0 => omega
    case n1 => omega
    intro b t h2 tk2 hk hb
    have F2 := FF.keeps hk
    have N2 := news_grow NN hk
    clear FF NN hk
    refine wpAny_bind (wpAny_holding ?_)
    k_steps
    refine wpAny_bind (wpAny_standAt ?_)
    unfold operate
    have hw := written_len (number := ks.length) (head := head) (k := bits.toNat) (by omega) (by omega)
    refine wpAny_bind (wpAny_holding (KBa.add_K hb hD (by omega) fun t' k hk => ?_))
    refine wpAny_bind (wpAny_of_eq (a := ()) rfl ?_)
    exact wpAny_pure (hret _ _ _ _ (fun b o hb => F2.keep b o (hg' ▸ hb)) hk)
end Mine
end

section
open PySem PySem.W PyProof.Rows PySem.Spec PySem.Calls
set_option Elab.async false
set_option maxRecDepth 100000
set_option maxHeartbeats 40000000
namespace Mine
section
variable {w : World} {mean : ExcName → Option Value} {mg mb : Str → Option Value} {A₀ : Around} {base g h h' : Heap} {env : Env} {L D : Addr} {m : Str → Option Value} {news : List (Addr × Obj)} {dp un : Nat} {gd : Option (List Code)} {s : Shared} {Q E : Value → Shared → Prop}
theorem turn_fr (F : Fr g L h m) (hf : env.frame = some L) (T : Turn (frs (env :: [])) h h') : Fr g L h' m := by
  obtain ⟨g₁, T, K, hz⟩ := T
  have e : frs (env :: []) = [L] := by
    show List.filterMap (·.frame) [env] = [L]
    rw [List.filterMap_cons, hf]
    rfl
  rw [e] at T
  obtain ⟨o, es, ep, ho, hd, r⟩ := F.ns
  obtain ⟨sl, hs⟩ := T.frame L o ho (.head _)
  refine ⟨⟨_, es, ep, K _ _ hs, hd, r⟩, fun b o hb => ?_, F.above⟩
  refine K b o (T.other b o (F.keep b o hb) fun q => ?_)
  rw [List.mem_singleton.mp q, kts_self F] at hb
  cases hb
theorem turn_news (N : News g L h news) (hf : env.frame = some L) (T : Turn (frs (env :: [])) h h') : News g L h' news := by
  obtain ⟨g₁, T, K, hz⟩ := T
  have e : frs (env :: []) = [L] := by
    show List.filterMap (·.frame) [env] = [L]
    rw [List.filterMap_cons, hf]
    rfl
  rw [e] at T
  exact fun p hp => ⟨K _ _ (T.other _ _ (N p hp).1 fun q => (N p hp).2.1 (List.mem_singleton.mp q)), (N p hp).2⟩
theorem news_more {o : Obj} (F : Fr g L h m) (N : News g L h' news) (k : Keeps h h') (hD : h.get? D = none) (ho : h'.get? D = some o) : News g L h' ((D, o) :: news) := by
  intro p hp
  rcases List.mem_cons.mp hp with rfl | hp
  · exact (news_in F (News.nil : News g L h []) k hD ho) _ (.head _)
  · exact N p hp
theorem box_use {a : Addr} {vs : List Value} {ns : List Int}
  (C : Ctx w mean mg mb base g []) (B : Below A₀ base [] g) (F : Fr g L s.heap m) (N : News g L s.heap news) (hf : env.frame = some L) (hk : env.scope.kind = .function) (hdp : dp + 2 < recursionLimit) (hun : un + 16 < cLine)
  (hL : g.IsList a vs.toArray) (hI : IntsAre vs ns) (hlen : ns.length ≤ 63)
  (hret : ∀ D l vs' ns' n0 n1 st t h' tk', Fr g L h' m → News g L h' ((D, listOf #[.ref l, .int st t] n0) :: (l, listOf vs'.toArray n1) :: news) → @LT.lt Nat _ l D → IntsAre vs' ns' → ns'.length < 100 → 0 ≤ st → st < 2147483647 → Q (.ref D) { s with heap := h', toks := tk' })
   : wpAny (MM w) (AR dp un gd env []) (call (.ref 96) [.ref a]) Q E s := by
  have hL' : s.heap.IsList a vs.toArray := by
    obtain ⟨o, ho, r⟩ := hL
    exact ⟨o, F.keep _ _ ho, r⟩
  refine box_tells (ctx_push C B F hf hk) hdp hun hL' hI hlen fun D l vs' ns' n0 n1 st t h' tk' k hD hl hlt hi hz s0 s1 oD ol => ?_
  exact hret D l vs' ns' n0 n1 st t h' tk' (F.keeps k) (news_more F (news_in F N k hl ol) k hD oD) hlt hi (by omega) s0 s1
theorem written_use {nt bt ht : Tok} {number bits head : Int}
  (C : Ctx w mean mg mb base g []) (B : Below A₀ base [] g) (F : Fr g L s.heap m) (N : News g L s.heap news) (hf : env.frame = some L) (hk : env.scope.kind = .function) (hdp : dp + 2 < recursionLimit) (hun : un + 16 < cLine)
  (hn0 : 0 ≤ number) (hn1 : number < 2 ^ 63) (hb0 : 1 ≤ bits) (hb1 : bits ≤ 8) (hh0 : 0 ≤ head) (hh1 : head < 256)
  (hret : ∀ D vs n h' tk', IntsAre vs (written number bits.toNat head) → Fr g L h' m → News g L h' ((D, listOf vs.toArray n) :: news) → Q (.ref D) { s with heap := h', toks := tk' })
   : wpAny (MM w) (AR dp un gd env []) (call (.ref 103) [.int number nt, .int bits bt, .int head ht]) Q E s :=
  written_tells (ctx_push C B F hf hk) hdp hun hn0 hn1 hb0 hb1 hh0 hh1 fun D vs n h' tk' k hD hi ho => hret D vs n h' tk' hi (F.keeps k) (news_in F N k hD ho)
theorem read_use {data : Array UInt8} {ks : List Int} {dt att bt : Tok} {at_ bits : Int}
  (C : Ctx w mean mg mb base g []) (B : Below A₀ base [] g) (F : Fr g L s.heap m) (N : News g L s.heap news) (hf : env.frame = some L) (hk : env.scope.kind = .function) (hdp : dp + 6 < recursionLimit) (hun : un + 64 < cLine)
  (hD : KBw.bInts data = ks) (hsz : ks.length ≤ 1000) (hat0 : 0 ≤ at_) (hat1 : at_ < 1000) (hb0 : 1 ≤ bits) (hb1 : bits ≤ 8)
  (hret : ∀ f a', getP (ks.drop at_.toNat) at_ bits.toNat = .ok f a' → ∀ D t1 t2 h' tk', Fr g L h' m → News g L h' ((D, tupObj [.int f t1, .int a' t2]) :: news) → Q (.ref D) { s with heap := h', toks := tk' })
  (hshort : getP (ks.drop at_.toNat) at_ bits.toNat = .short → ∀ t h' tk', Fr g L h' m → News g L h' news → Q (.str (Str.ofString "short") t) { s with heap := h', toks := tk' })
  (hbig : getP (ks.drop at_.toNat) at_ bits.toNat = .big → ∀ t h' tk', Fr g L h' m → News g L h' news → Q (.int 512 t) { s with heap := h', toks := tk' })
   : wpAny (MM w) (AR dp un gd env []) (call (.ref 110) [.bytes data dt, .int at_ att, .int bits bt]) Q E s :=
  read_tells (ctx_push C B F hf hk) hdp hun hD hsz hat0 hat1 hb0 hb1
    (fun f a' e D t1 t2 h' tk' k hn ho => hret f a' e D t1 t2 h' tk' (F.keeps k) (news_in F N k hn ho))
    (fun e t h' tk' T => hshort e t h' tk' (turn_fr F hf T) (turn_news N hf T))
    (fun e t h' tk' T => hbig e t h' tk' (turn_fr F hf T) (turn_news N hf T))
theorem rtext_use {data : Array UInt8} {ks : List Int} {dt att bt : Tok} {at_ bits : Int}
  (C : Ctx w mean mg mb base g []) (B : Below A₀ base [] g) (F : Fr g L s.heap m) (N : News g L s.heap news) (hf : env.frame = some L) (hk : env.scope.kind = .function) (hdp : dp + 8 < recursionLimit) (hun : un + 96 < cLine)
  (hD : KBw.bInts data = ks) (hsz : ks.length ≤ 1000) (hat0 : 0 ≤ at_) (hat1 : at_ < 1000) (hb0 : 1 ≤ bits) (hb1 : bits ≤ 7)
  (hret : ∀ txt a', getT ks at_ bits.toNat = .ok txt a' → ∀ D b t1 t2 h' tk', KBw.bInts b = txt → Fr g L h' m → News g L h' ((D, tupObj [.bytes b t1, .int a' t2]) :: news) → Q (.ref D) { s with heap := h', toks := tk' })
  (hshort : getT ks at_ bits.toNat = .short → ∀ t h' tk', Fr g L h' m → News g L h' news → Q (.str (Str.ofString "short") t) { s with heap := h', toks := tk' })
  (hbig : getT ks at_ bits.toNat = .big → ∀ t h' tk', Fr g L h' m → News g L h' news → Q (.int 512 t) { s with heap := h', toks := tk' })
   : wpAny (MM w) (AR dp un gd env []) (call (.ref 117) [.bytes data dt, .int at_ att, .int bits bt]) Q E s :=
  read_text_tells (ctx_push C B F hf hk) hdp hun hD hsz hat0 hat1 hb0 hb1
    (fun f a' e D b t1 t2 h' tk' k hn hb ho => hret f a' e D b t1 t2 h' tk' hb (F.keeps k) (news_in F N k hn ho))
    (fun e t h' tk' T => hshort e t h' tk' (turn_fr F hf T) (turn_news N hf T))
    (fun e t h' tk' T => hbig e t h' tk' (turn_fr F hf T) (turn_news N hf T))
theorem prefix_use {nt bt ht : Tok} {number bits head : Int}
  (C : Ctx w mean mg mb base g []) (B : Below A₀ base [] g) (F : Fr g L s.heap m) (N : News g L s.heap news) (hf : env.frame = some L) (hk : env.scope.kind = .function) (hdp : dp + 4 < recursionLimit) (hun : un + 32 < cLine)
  (hn0 : 0 ≤ number) (hn1 : number < 2 ^ 63) (hb0 : 1 ≤ bits) (hb1 : bits ≤ 8) (hh0 : 0 ≤ head) (hh1 : head + 2 ^ bits.toNat ≤ 256) (hh2 : head % 2 ^ bits.toNat = 0)
  (hret : ∀ b t h' tk', KBw.bInts b = written number bits.toNat head → Fr g L h' m → News g L h' news → Q (.bytes b t) { s with heap := h', toks := tk' })
   : wpC (MM w) (AR dp un (some []) env []) (call (.ref 61) [.int number nt, .int bits bt, .int head ht]) Q Nev s :=
  prefix_tells (ctx_push C B F hf hk) hdp hun hn0 hn1 hb0 hb1 hh0 hh1 hh2 fun b t h' tk' k hb => hret b t h' tk' hb (F.keeps k) (news_grow N k)
theorem ptext_use {data : Array UInt8} {ks : List Int} {dt bt ht : Tok} {bits head : Int}
  (C : Ctx w mean mg mb base g []) (B : Below A₀ base [] g) (F : Fr g L s.heap m) (N : News g L s.heap news) (hf : env.frame = some L) (hk : env.scope.kind = .function) (hdp : dp + 6 < recursionLimit) (hun : un + 64 < cLine)
  (hD : KBw.bInts data = ks) (hsz : ks.length ≤ 1000) (hb0 : 1 ≤ bits) (hb1 : bits ≤ 8) (hh0 : 0 ≤ head) (hh1 : head + 2 ^ bits.toNat ≤ 256) (hh2 : head % 2 ^ bits.toNat = 0)
  (hret : ∀ b t h' tk', KBw.bInts b = written ks.length bits.toNat head ++ ks → Fr g L h' m → News g L h' news → Q (.bytes b t) { s with heap := h', toks := tk' })
   : wpC (MM w) (AR dp un (some []) env []) (call (.ref 75) [.bytes data dt, .int bits bt, .int head ht]) Q Nev s :=
  ptext_tells (ctx_push C B F hf hk) hdp hun hD hsz hb0 hb1 hh0 hh1 hh2 fun b t h' tk' k hb => hret b t h' tk' hb (F.keeps k) (news_grow N k)
end
end Mine
end

section
open PySem PySem.W PyProof.Rows PySem.Spec PySem.Calls
set_option Elab.async false
set_option maxRecDepth 100000
set_option maxHeartbeats 40000000
namespace Mine
theorem fillTake1 : ∀ (o : OpenLaw) (f : Params → Frag), o = Challenge.rw_no0050_01 → f = hd.heap_39 → True := by
  k_fill
  w_top off
  intros; trivial

theorem pop0 {prog : Program} {w : World} {A : Around} {E : Value → Shared → Prop} {s : Shared} {h₀ : Heap} {L D : Addr} {m : Str → Option Value} {news news' : List (Addr × Obj)} {n : Nat} {u : Tok} {y : Value} {q : List Value} {Q : Value → Shared → Prop}
    (F : Fr h₀ L s.heap m) (N : News h₀ L s.heap news) (U : Upd D (listOf (y :: q).toArray n) (listOf q.toArray (n + 1)) news news') (hz : q.length < 1000)
    (h : ∀ h', Fr h₀ L h' m → News h₀ L h' news' → Q y { s with heap := h' }) : wpAny (model prog w) A (call (.builtin "list.pop") [.ref D, .int 0 u]) Q E s := by
  refine kl_popAt (p := []) (k := 0) F N (by rfl) ?_ (by rfl) U ?_ h
  · unfold seqIndex?
    simp
  · rw [sizeLine_eq]
    simp
    omega

theorem len_made {prog : Program} {w : World} {A : Around} {E : Value → Shared → Prop} {s : Shared} {h₀ : Heap} {L l : Addr} {news : List (Addr × Obj)} {us : List Value} {k c : Nat} {Q : Value → Shared → Prop} (N : News h₀ L s.heap news) (hm : (l, listOf us.toArray c) ∈ news) (e : us.length = k) (hfit : k < 1000)
    (h : ∀ t t', Q (.int (k : Int) t) { s with toks := t' }) : wpAny (model prog w) A (call (.builtin "len") [.ref l]) Q E s :=
  kst_len N hm e (by omega) (h _ _)

local macro_rules | `(tactic| k_all) => `(tactic| assumption)
local macro_rules | `(tactic| walk_at "call builtin:list.pop") => `(tactic| (k_here; k_dflt (refine' pop0 ?F ?N ?U ?z ?_; (case F => k_asm); (case N => k_asm); (case U => k_upd); (case z => ((try simp only [List.length_cons] at *); (rename IntsAre _ _ => hI9); (have := hI9.length); omega))); (intro h' F' N'; (try dsimp only [List.nil_append, List.cons_append] at N'))))

local macro_rules | `(tactic| walk_at "call builtin:len") => `(tactic| (k_here; (with_reducible show wpAny _ _ (call (Value.builtin _) [Value.ref _]) _ _ _); k_dflt (refine' len_made ?N ?m ?e ?z ?_; (case N => k_asm); (case m => k_mem); (case e => first | exact congrArg (· + 1) (IntsAre.length (by assumption)) | exact IntsAre.length (by assumption)); (case z => ((try simp only [List.length_cons] at *); omega)); (intro _ _))))
theorem take_tells {w : World} {mean : ExcName → Option Value} {mg mb : Str → Option Value}
  (dp un : Nat) (gd : Option (List Code)) (cn : Str) (cs : Scope) (a : Addr) (ccd : Value) (cl : List (Str × Addr)) (outer : List Env) (A₀ : Around) (base h₀ : Heap) (L : Addr) (m : Str → Option Value) (s : Shared) (Q E : Value → Shared → Prop)
  (b l : Addr) (st : Int) (stt : Tok) (n0 n1 : Nat) (vs : List Value) (ns : List Int) (rest : List (Addr × Obj)) (wide : Int) (wt : Tok)
  (B : Below A₀ base outer h₀) (F : Fr h₀ L s.heap m) (KX : (hd.heap_39 w.params).In h₀)
  (N : News h₀ L s.heap ((b, listOf #[.ref l, .int st stt] n0) :: (l, listOf vs.toArray n1) :: rest))
  (T : TT mean mg mb h₀) (hk : cs.kind = .function) (hd : dp + 1 < recursionLimit) (hu : un + 8 < cLine)
  (hbl : @LT.lt Nat _ l b) (hb : ∀ p ∈ rest, p.1 ≠ b) (hl : ∀ p ∈ rest, p.1 ≠ l) (hi : IntsAre vs ns) (hlen : ns.length < 100) (h0 : 0 ≤ st) (h1 : st < 2147483647)
  (hw0 : 0 < wide) (hw1 : wide < 2 ^ 63)
  (hret : ∀ (v : Int) (t : Tok) (h' : Heap) (tk' : Nat) (st' : Int) (stt' : Tok) (n0' n1' : Nat) (vs' : List Value) (ns' : List Int),
    0 ≤ v → v < wide → 0 ≤ st' → st' < 2147483647 → IntsAre vs' ns' → ns'.length < 100 →
    Fr h₀ L h' m → News h₀ L h' ((b, listOf #[.ref l, .int st' stt'] n0') :: (l, listOf vs'.toArray n1') :: rest) → Q (.int v t) { s with heap := h', toks := tk' }) :
  wpAny (MM w) (ktrTop dp un gd cn cs L a ccd cl outer) (call (.ref 89) [.ref b, .int wide wt]) Q E s := by
  cases hi with
  | nil =>
    have hi : IntsAre [] [] := .nil
    refine wpAny_call ?_
    k_dflt cell_enter
    k_steps
    refine hret _ _ _ _ _ _ _ _ [] [] ?_ ?_ ?_ ?_ .nil (by decide) (by assumption) (by assumption)
    · exact Int.fmod_nonneg_of_pos _ hw0
    · exact Int.fmod_lt_of_pos _ hw0
    · exact Int.fmod_nonneg_of_pos _ (by decide)
    · exact Int.fmod_lt_of_pos _ (by decide)
  | cons k t hi =>
    refine wpAny_call ?_
    k_dflt cell_enter
    k_steps
    refine hret _ _ _ _ _ _ _ _ _ _ ?_ ?_ h0 h1 hi (by simp only [List.length_cons] at hlen; omega) (by assumption) (by assumption)
    · exact Int.fmod_nonneg_of_pos _ hw0
    · exact Int.fmod_lt_of_pos _ hw0
end Mine
end

section
open PySem PySem.W PyProof.Rows PySem.Spec PySem.Calls
set_option Elab.async false
set_option maxRecDepth 100000
set_option maxHeartbeats 40000000
namespace Mine
theorem ne_obj {g h : Heap} {L a b : Addr} {x y : Obj} {news : List (Addr × Obj)} (N : News g L h news) (ha : (a, x) ∈ news) (hb : (b, y) ∈ news) (hne : x.data ≠ y.data) : a ≠ b := fun q => by
  have h1 := (N _ ha).1
  have h2 := (N _ hb).1
  dsimp only at h1 h2
  rw [q, h2] at h1
  cases h1
  exact hne rfl
theorem fr_kst {g h : Heap} {L : Addr} {m : Str → Option Value} (F : Fr g L h m) (ps : List (Str × Value)) (hk : ∀ p ∈ ps, m p.1 = some p.2) : Fr g L h (kstB m ps) := by
  have e : kstB m ps = m := by
    funext z
    exact kstB_eq hk fun _ => rfl
  rw [e]
  exact F
theorem news_push {g h : Heap} {L : Addr} {m : Str → Option Value} {led : List (Addr × Obj)} {o o' : Obj} (F : Fr g L h m) (N : News g L h led) (e : o = o') (hf : (h.push o).get? h.objs.size = some o := by exact Heap.get?_push_size _ rfl) : News g L (h.push o) (led ++ [(h.objs.size, o')]) := by
  intro p hp
  rcases List.mem_append.mp hp with hp | hp
  · exact ⟨Heap.get?_push_of_some _ (N p hp).1, (N p hp).2⟩
  · rw [List.mem_singleton.mp hp, ← e]
    refine ⟨hf, fun q => ?_, ?_⟩
    · have := F.ns.lt
      dsimp only at q
      rw [q] at this
      exact absurd this (Nat.lt_irrefl _)
    · cases q : g.get? h.objs.size with
      | none => rfl
      | some y => exact absurd (Heap.lt_size (F.keep _ _ q)) (Nat.lt_irrefl _)
theorem fr_nil {g h : Heap} {L : Addr} {m : Str → Option Value} (F : Fr g L h m) : Fr g L h (kstB m []) := F
theorem fr_add {g h : Heap} {L : Addr} {m : Str → Option Value} {ps : List (Str × Value)} {x : Str} {v : Value} (F : Fr g L h (kstB m ps)) (hx : kstB m ps x = some v) : Fr g L h (kstB m ((x, v) :: ps)) := by
  have e : kstB m ((x, v) :: ps) = kstB m ps := by
    funext z
    show (if z = x then some v else kstB m ps z) = kstB m ps z
    split
    · rename_i q
      rw [q, hx]
    · rfl
  rw [e]
  exact F
theorem take_use {w : World} {mean : ExcName → Option Value} {mg mb : Str → Option Value}
  {dp un : Nat} {gd : Option (List Code)} {cn : Str} {cs : Scope} {a : Addr} {ccd : Value} {cl : List (Str × Addr)} {outer : List Env} {A₀ : Around} {base h₀ : Heap} {L : Addr} {m : Str → Option Value} {s : Shared} {Q E : Value → Shared → Prop}
  {b l : Addr} {st : Int} {stt : Tok} {n0 n1 : Nat} {vs : List Value} {ns : List Int} (pre : List (Addr × Obj)) {rest : List (Addr × Obj)} {wide : Int} {wt : Tok}
  (B : Below A₀ base outer h₀) (F : Fr h₀ L s.heap m) (KX : (hd.heap_39 w.params).In h₀)
  (N : News h₀ L s.heap (pre ++ (b, listOf #[.ref l, .int st stt] n0) :: (l, listOf vs.toArray n1) :: rest))
  (T : TT mean mg mb h₀) (hk : cs.kind = .function) (hd : dp + 1 < recursionLimit) (hu : un + 8 < cLine)
  (hbl : @LT.lt Nat _ l b) (hb : ∀ p ∈ pre ++ rest, p.1 ≠ b) (hl : ∀ p ∈ pre ++ rest, p.1 ≠ l) (hi : IntsAre vs ns) (hlen : ns.length < 100) (h0 : 0 ≤ st) (h1 : st < 2147483647)
  (hw0 : 0 < wide) (hw1 : wide < 2 ^ 63)
  (hret : ∀ (v : Int) (t : Tok) (h' : Heap) (tk' : Nat) (st' : Int) (stt' : Tok) (n0' n1' : Nat) (vs' : List Value) (ns' : List Int),
    0 ≤ v → v < wide → 0 ≤ st' → st' < 2147483647 → IntsAre vs' ns' → ns'.length < 100 →
    Fr h₀ L h' m → News h₀ L h' (pre ++ (b, listOf #[.ref l, .int st' stt'] n0') :: (l, listOf vs'.toArray n1') :: rest) → Q (.int v t) { s with heap := h', toks := tk' }) :
  wpAny (MM w) (ktrTop dp un gd cn cs L a ccd cl outer) (call (.ref 89) [.ref b, .int wide wt]) Q E s := by
  refine take_tells dp un gd cn cs a ccd cl outer A₀ base h₀ L m s Q E b l st stt n0 n1 vs ns (pre ++ rest) wide wt B F KX (fun p hp => N p ?_) T hk hd hu hbl hb hl hi hlen h0 h1 hw0 hw1
    (fun v t h' tk' st' stt' n0' n1' vs' ns' v0 v1 s0 s1 hi' hz' F' N' => hret v t h' tk' st' stt' n0' n1' vs' ns' v0 v1 s0 s1 hi' hz' F' fun p hp => N' p ?_)
  · rcases List.mem_cons.mp hp with rfl | hp
    · exact List.mem_append_right _ (.head _)
    · rcases List.mem_cons.mp hp with rfl | hp
      · exact List.mem_append_right _ (.tail _ (.head _))
      · rcases List.mem_append.mp hp with hp | hp
        · exact List.mem_append_left _ hp
        · exact List.mem_append_right _ (.tail _ (.tail _ hp))
  · rcases List.mem_append.mp hp with hp | hp
    · exact .tail _ (.tail _ (List.mem_append_left _ hp))
    · rcases List.mem_cons.mp hp with rfl | hp
      · exact .head _
      · rcases List.mem_cons.mp hp with rfl | hp
        · exact .tail _ (.head _)
        · exact .tail _ (.tail _ (List.mem_append_right _ hp))
end Mine
end

section
open PySem PySem.W PyProof.Rows PySem.Spec PySem.Calls
set_option Elab.async false
set_option maxRecDepth 100000
set_option maxHeartbeats 40000000
namespace Mine
def Then (f : Flow) (P : Prop) : Prop := f = .next ∧ P
theorem wpC_next {M : Model} {A : Around} {env : Env} {s : Shared} {st : Stmt} {rest : List Stmt} {Q : Flow → Shared → Prop} {Post : Shared → Prop} (a : wpC M A (exec st env) (fun f s' => Then f (Post s')) Nev s) (b : ∀ s', Post s' → wpC M A (execs rest env) Q Nev s') :
    wpC M A (execs (st :: rest) env) Q Nev s :=
  wpC_execs_cons (wpC_mono a (fun f s' x => by obtain ⟨rfl, x⟩ := x; exact b s' x) fun _ _ x => x)
def Led (g : Heap) (L D l I : Addr) (o io : Obj) (h : Heap) : Prop := ∃ (n0 n1 : Nat) (st : Int) (t : Tok) (vs : List Value) (ns : List Int), News g L h [(D, listOf #[.ref l, .int st t] n0), (l, listOf vs.toArray n1), (L + 1, o), (I, io)] ∧ IntsAre vs ns ∧ ns.length < 100 ∧ 0 ≤ st ∧ st < 2147483647
section
variable {w : World} {mean : ExcName → Option Value} {mg mb : Str → Option Value} {A₀ : Around} {base g h h' : Heap} {env : Env} {L D : Addr} {m : Str → Option Value} {news : List (Addr × Obj)} {dp un : Nat} {gd : Option (List Code)} {s : Shared} {Q E : Value → Shared → Prop}
theorem read_ok {data : Array UInt8} {ks : List Int} {dt att bt : Tok} {at_ bits f a : Int}
  (C : Ctx w mean mg mb base g []) (B : Below A₀ base [] g) (F : Fr g L s.heap m) (N : News g L s.heap news) (hf : env.frame = some L) (hk : env.scope.kind = .function) (hdp : dp + 6 < recursionLimit) (hun : un + 64 < cLine)
  (hD : KBw.bInts data = ks) (hx : getP (ks.drop at_.toNat) at_ bits.toNat = .ok f a) (hsz : ks.length ≤ 1000) (hat0 : 0 ≤ at_) (hat1 : at_ < 1000) (hb0 : 1 ≤ bits) (hb1 : bits ≤ 8)
  (hret : ∀ D t1 t2 h' tk', Fr g L h' m → News g L h' ((D, tupObj [.int f t1, .int a t2]) :: news) → Q (.ref D) { s with heap := h', toks := tk' })
   : wpAny (MM w) (AR dp un gd env []) (call (.ref 110) [.bytes data dt, .int at_ att, .int bits bt]) Q E s := by
  refine read_use C B F N hf hk hdp hun hD hsz hat0 hat1 hb0 hb1 (fun f' a' e => ?_) (fun e => ?_) (fun e => ?_) <;> rw [hx] at e <;> cases e
  exact hret
theorem read_sh {data : Array UInt8} {ks : List Int} {dt att bt : Tok} {at_ bits : Int}
  (C : Ctx w mean mg mb base g []) (B : Below A₀ base [] g) (F : Fr g L s.heap m) (N : News g L s.heap news) (hf : env.frame = some L) (hk : env.scope.kind = .function) (hdp : dp + 6 < recursionLimit) (hun : un + 64 < cLine)
  (hD : KBw.bInts data = ks) (hx : getP (ks.drop at_.toNat) at_ bits.toNat = .short) (hsz : ks.length ≤ 1000) (hat0 : 0 ≤ at_) (hat1 : at_ < 1000) (hb0 : 1 ≤ bits) (hb1 : bits ≤ 8)
  (hret : ∀ t h' tk', Fr g L h' m → News g L h' news → Q (.str (Str.ofString "short") t) { s with heap := h', toks := tk' })
   : wpAny (MM w) (AR dp un gd env []) (call (.ref 110) [.bytes data dt, .int at_ att, .int bits bt]) Q E s := by
  refine read_use C B F N hf hk hdp hun hD hsz hat0 hat1 hb0 hb1 (fun f' a' e => ?_) (fun e => ?_) (fun e => ?_) <;> rw [hx] at e <;> cases e
  exact hret
theorem read_bg {data : Array UInt8} {ks : List Int} {dt att bt : Tok} {at_ bits : Int}
  (C : Ctx w mean mg mb base g []) (B : Below A₀ base [] g) (F : Fr g L s.heap m) (N : News g L s.heap news) (hf : env.frame = some L) (hk : env.scope.kind = .function) (hdp : dp + 6 < recursionLimit) (hun : un + 64 < cLine)
  (hD : KBw.bInts data = ks) (hx : getP (ks.drop at_.toNat) at_ bits.toNat = .big) (hsz : ks.length ≤ 1000) (hat0 : 0 ≤ at_) (hat1 : at_ < 1000) (hb0 : 1 ≤ bits) (hb1 : bits ≤ 8)
  (hret : ∀ t h' tk', Fr g L h' m → News g L h' news → Q (.int 512 t) { s with heap := h', toks := tk' })
   : wpAny (MM w) (AR dp un gd env []) (call (.ref 110) [.bytes data dt, .int at_ att, .int bits bt]) Q E s := by
  refine read_use C B F N hf hk hdp hun hD hsz hat0 hat1 hb0 hb1 (fun f' a' e => ?_) (fun e => ?_) (fun e => ?_) <;> rw [hx] at e <;> cases e
  exact hret
theorem rtext_ok {data : Array UInt8} {ks txt : List Int} {dt att bt : Tok} {at_ bits a : Int}
  (C : Ctx w mean mg mb base g []) (B : Below A₀ base [] g) (F : Fr g L s.heap m) (N : News g L s.heap news) (hf : env.frame = some L) (hk : env.scope.kind = .function) (hdp : dp + 8 < recursionLimit) (hun : un + 96 < cLine)
  (hD : KBw.bInts data = ks) (hx : getT ks at_ bits.toNat = .ok txt a) (hsz : ks.length ≤ 1000) (hat0 : 0 ≤ at_) (hat1 : at_ < 1000) (hb0 : 1 ≤ bits) (hb1 : bits ≤ 7)
  (hret : ∀ D b t1 t2 h' tk', KBw.bInts b = txt → Fr g L h' m → News g L h' ((D, tupObj [.bytes b t1, .int a t2]) :: news) → Q (.ref D) { s with heap := h', toks := tk' })
   : wpAny (MM w) (AR dp un gd env []) (call (.ref 117) [.bytes data dt, .int at_ att, .int bits bt]) Q E s := by
  refine rtext_use C B F N hf hk hdp hun hD hsz hat0 hat1 hb0 hb1 (fun f' a' e => ?_) (fun e => ?_) (fun e => ?_) <;> rw [hx] at e <;> cases e
  exact hret
theorem rtext_sh {data : Array UInt8} {ks : List Int} {dt att bt : Tok} {at_ bits : Int}
  (C : Ctx w mean mg mb base g []) (B : Below A₀ base [] g) (F : Fr g L s.heap m) (N : News g L s.heap news) (hf : env.frame = some L) (hk : env.scope.kind = .function) (hdp : dp + 8 < recursionLimit) (hun : un + 96 < cLine)
  (hD : KBw.bInts data = ks) (hx : getT ks at_ bits.toNat = .short) (hsz : ks.length ≤ 1000) (hat0 : 0 ≤ at_) (hat1 : at_ < 1000) (hb0 : 1 ≤ bits) (hb1 : bits ≤ 7)
  (hret : ∀ t h' tk', Fr g L h' m → News g L h' news → Q (.str (Str.ofString "short") t) { s with heap := h', toks := tk' })
   : wpAny (MM w) (AR dp un gd env []) (call (.ref 117) [.bytes data dt, .int at_ att, .int bits bt]) Q E s := by
  refine rtext_use C B F N hf hk hdp hun hD hsz hat0 hat1 hb0 hb1 (fun f' a' e => ?_) (fun e => ?_) (fun e => ?_) <;> rw [hx] at e <;> cases e
  exact hret
theorem rtext_bg {data : Array UInt8} {ks : List Int} {dt att bt : Tok} {at_ bits : Int}
  (C : Ctx w mean mg mb base g []) (B : Below A₀ base [] g) (F : Fr g L s.heap m) (N : News g L s.heap news) (hf : env.frame = some L) (hk : env.scope.kind = .function) (hdp : dp + 8 < recursionLimit) (hun : un + 96 < cLine)
  (hD : KBw.bInts data = ks) (hx : getT ks at_ bits.toNat = .big) (hsz : ks.length ≤ 1000) (hat0 : 0 ≤ at_) (hat1 : at_ < 1000) (hb0 : 1 ≤ bits) (hb1 : bits ≤ 7)
  (hret : ∀ t h' tk', Fr g L h' m → News g L h' news → Q (.int 512 t) { s with heap := h', toks := tk' })
   : wpAny (MM w) (AR dp un gd env []) (call (.ref 117) [.bytes data dt, .int at_ att, .int bits bt]) Q E s := by
  refine rtext_use C B F N hf hk hdp hun hD hsz hat0 hat1 hb0 hb1 (fun f' a' e => ?_) (fun e => ?_) (fun e => ?_) <;> rw [hx] at e <;> cases e
  exact hret
end
end Mine
end

section
set_option Elab.async false
set_option maxRecDepth 100000
namespace Mine
theorem read_back {number head : Int} {k : Nat} (a rest : List Int) (h0 : 0 ≤ number) (h1 : number ≤ 4611686018427387903) (hm : head % 2 ^ k = 0) :
    getP ((a ++ written number k head ++ rest).drop ((a.length : Int)).toNat) a.length k = .ok number (a.length + (written number k head).length) := by
  rw [Int.toNat_natCast, List.append_assoc, List.drop_left, getP_written rest h0 h1 hm]
theorem read_short {number head : Int} {k m : Nat} (a : List Int) (h0 : 0 ≤ number) (h1 : number ≤ 4611686018427387903) (hm : head % 2 ^ k = 0) (hs : m < (written number k head).length) :
    getP ((a ++ (written number k head).take m).drop ((a.length : Int)).toNat) a.length k = .short := by
  rw [Int.toNat_natCast, List.drop_left, getP_short h0 h1 hm hs]
theorem first_of {number head : Int} {k : Nat} (h0 : 0 ≤ number) : ∃ c r, written number k head = (head + c) :: r ∧ 0 ≤ c ∧ c < 2 ^ k := by
  have hp := pow_lo k
  unfold written
  split
  · rename_i h
    exact ⟨number, [], rfl, h0, by omega⟩
  · exact ⟨2 ^ k - 1, _, rfl, by omega, by omega⟩
theorem high_bit {head c : Int} {k : Nat} (hm : head % 2 ^ (k + 1) = 0) (c0 : 0 ≤ c) (c1 : c < 2 ^ k) : (head + c) / 2 ^ k % 2 = 0 ∧ (head + c + 2 ^ k) / 2 ^ k % 2 = 1 := by
  have hp := pow_lo k
  have h1 := Int.mul_ediv_add_emod head (2 ^ (k + 1))
  rw [hm, Int.add_zero, Int.pow_succ] at h1
  have e1 : (head + c) / 2 ^ k = 2 * (head / (2 ^ k * 2)) := by
    rw [← h1, show 2 ^ k * 2 * (head / (2 ^ k * 2)) + c = c + 2 ^ k * (2 * (head / (2 ^ k * 2))) by rw [Int.mul_assoc, Int.add_comm], Int.add_mul_ediv_left _ _ (by omega), Int.ediv_eq_zero_of_lt c0 c1, Int.zero_add, h1]
  have e2 : (head + c + 2 ^ k) / 2 ^ k = 2 * (head / (2 ^ k * 2)) + 1 := by
    rw [show head + c + 2 ^ k = head + c + 2 ^ k * 1 by omega, Int.add_mul_ediv_left _ _ (by omega), e1]
  rw [e1, e2]
  omega
theorem low_mod {head : Int} {k : Nat} (hm : head % 2 ^ (k + 1) = 0) : head % 2 ^ k = 0 := by
  refine Int.emod_eq_zero_of_dvd (Int.dvd_trans ?_ (Int.dvd_of_emod_eq_zero hm))
  exact ⟨2, Int.pow_succ ..⟩
theorem text_back {head : Int} {k : Nat} (a txt rest : List Int) (hz : txt.length ≤ 1000) (hm : head % 2 ^ (k + 1) = 0) :
    getT (a ++ (written txt.length k head ++ txt) ++ rest) a.length k = .ok txt (a.length + (written txt.length k head ++ txt).length) := by
  obtain ⟨c, r, he, c0, c1⟩ := first_of (number := txt.length) (head := head) (k := k) (by omega)
  have hb := high_bit hm c0 c1
  unfold getT
  rw [if_neg]
  · rw [show a ++ (written txt.length k head ++ txt) ++ rest = a ++ written txt.length k head ++ (txt ++ rest) by simp [List.append_assoc]]
    rw [read_back a (txt ++ rest) (by omega) (by omega) (low_mod hm)]
    dsimp only
    rw [if_neg (by simp only [List.length_append]; omega)]
    have e1 : ((a.length : Int) + (written txt.length k head).length).toNat = (a ++ written txt.length k head).length := by rw [List.length_append]; omega
    rw [e1, List.drop_left, Int.toNat_natCast, List.take_left]
    congr 1
    rw [List.length_append]
    omega
  · rintro ⟨_, h⟩
    rw [he] at h
    rw [show (a ++ ((head + c) :: r ++ txt) ++ rest).getD ((a.length : Int)).toNat 0 = head + c by rw [Int.toNat_natCast]; simp [List.getD]] at h
    omega
theorem text_short {head : Int} {k : Nat} (txt : List Int) (hk : 1 ≤ k) (hz : txt.length ≤ 1000) (hm : head % 2 ^ (k + 1) = 0) :
    getT ((written txt.length k head ++ txt).take ((written txt.length k head ++ txt).length - 1)) 0 k = .short := by
  obtain ⟨c, r, he, c0, c1⟩ := first_of (number := txt.length) (head := head) (k := k) (by omega)
  have hb := high_bit hm c0 c1
  have hw : 1 ≤ (written txt.length k head).length := by rw [he]; simp
  have first : ∀ (m : Nat), ¬ ((0 : Int) < (((written txt.length k head ++ txt).take m).length : Int) ∧ (((written txt.length k head ++ txt).take m).getD (0 : Int).toNat 0 / 2 ^ k) % 2 = 1) := by
    rintro m ⟨h1, h2⟩
    cases m with
    | zero => simp at h1
    | succ m =>
      rw [he] at h2
      simp [List.getD] at h2
      omega
  unfold getT
  rw [if_neg (first _)]
  rw [show (0 : Int).toNat = 0 from rfl, List.drop_zero]
  cases txt with
  | nil =>
    have e0 : written ((([] : List Int).length : Nat) : Int) k head = [head + 0] := by
      unfold written
      have : (2 : Int) ≤ 2 ^ k := by
        have : (2 : Nat) ^ 1 ≤ 2 ^ k := Nat.pow_le_pow_right (by decide) hk
        exact_mod_cast this
      rw [if_pos (by simp; omega)]
      rfl
    rw [e0]
    rfl
  | cons x t =>
    rw [show (written ((x :: t).length : Nat) k head ++ x :: t).take ((written ((x :: t).length : Nat) k head ++ x :: t).length - 1) = written ((x :: t).length : Nat) k head ++ (x :: t).take t.length by
      rw [List.length_append, List.length_cons, show (written ((t.length + 1 : Nat) : Int) k head).length + (t.length + 1) - 1 = (written ((t.length + 1 : Nat) : Int) k head).length + t.length by omega, List.take_length_add_append]]
    rw [getP_written _ (by omega) (by omega) (low_mod hm)]
    dsimp only
    rw [if_pos]
    rw [List.length_append, List.length_take, List.length_cons]
    omega
theorem text_big {head : Int} {k : Nat} (txt rest : List Int) {y : Int} (hm : head % 2 ^ (k + 1) = 0) (hy : (written txt.length k head ++ txt).getD 0 0 + 2 ^ k = y) :
    getT (y :: rest) 0 k = .big := by
  obtain ⟨c, r, he, c0, c1⟩ := first_of (number := txt.length) (head := head) (k := k) (by omega)
  have hb := high_bit hm c0 c1
  rw [he] at hy
  simp [List.getD] at hy
  unfold getT
  rw [if_pos]
  refine ⟨by simp, ?_⟩
  simp [List.getD]
  rw [← hy]
  exact hb.2
end Mine
end

section
set_option Elab.async false
set_option maxRecDepth 100000
namespace Mine
theorem getD_in {l : List Int} {hi : Int} (h : ∀ x ∈ l, 0 ≤ x ∧ x ≤ hi) (h0 : 0 ≤ hi) (k : Nat) : 0 ≤ l.getD k 0 ∧ l.getD k 0 ≤ hi := by
  rw [List.getD_eq_getElem?_getD]
  cases e : l[k]? with
  | none => exact ⟨Int.le_refl 0, h0⟩
  | some x => exact h x (List.mem_of_getElem? e)
theorem menu_in {a b c bits : Int} (k : Nat) (ha0 : 0 ≤ a) (ha1 : a < 300) (hb0 : 0 ≤ b) (hb1 : b < 3) (hc0 : 0 ≤ c) (hc1 : c < 2 ^ (62 : Int).toNat) (h1 : 1 ≤ bits) (h8 : bits ≤ 8) :
    0 ≤ List.getD [a, 2 ^ bits.toNat - 1, 2 ^ bits.toNat - 2 + b, c] k 0 ∧ List.getD [a, 2 ^ bits.toNat - 1, 2 ^ bits.toNat - 2 + b, c] k 0 ≤ 4611686018427387903 := by
  have hp := pow_bits h1 h8
  refine getD_in (fun x hx => ?_) (by decide) k
  have e : (2 : Int) ^ (62 : Int).toNat = 4611686018427387904 := by decide
  simp only [List.mem_cons, List.not_mem_nil, or_false] at hx
  rcases hx with rfl | rfl | rfl | rfl <;> omega
theorem head_in {v bits : Int} (k : Int) (h1 : 0 ≤ k) (h8 : k ≤ bits) (hb : bits ≤ 8) (v0 : 0 ≤ v) (v1 : v < 2 ^ (bits - k).toNat) : 0 ≤ v * 2 ^ k.toNat ∧ v * 2 ^ k.toNat + 2 ^ k.toNat ≤ 2 ^ bits.toNat ∧ v * 2 ^ k.toNat % 2 ^ k.toNat = 0 := by
  have hp := pow_lo k.toNat
  refine ⟨Int.mul_nonneg v0 (by omega), ?_, Int.mul_emod_left ..⟩
  have e : (2 : Int) ^ bits.toNat = 2 ^ (bits - k).toNat * 2 ^ k.toNat := by
    rw [← Int.pow_add]
    congr 1
    omega
  have h := Int.mul_le_mul_of_nonneg_right (show v + 1 ≤ 2 ^ (bits - k).toNat by omega) (show (0 : Int) ≤ 2 ^ k.toNat by omega)
  rw [Int.add_mul, Int.one_mul] at h
  omega
theorem pow_lt63 {k : Nat} (h : k < 63) : (2 : Int) ^ k < 2 ^ 63 := by
  have : (2 : Nat) ^ k < 2 ^ 63 := Nat.pow_lt_pow_right (by decide) h
  exact_mod_cast this
theorem tl_in : ∀ (n : Nat) (x : Int), x.toNat ≤ n → 0 ≤ x → ∀ z ∈ tl x, 0 ≤ z ∧ z < 256 := by
  intro n
  induction n using Nat.strongRecOn with
  | ind n ih =>
    intro x hn h0 z hz
    by_cases hx : 127 < x
    · rw [tl_step hx] at hz
      rcases List.mem_cons.mp hz with rfl | hz
      · omega
      · exact ih (x / 128).toNat (by omega) (x / 128) (Nat.le_refl _) (by omega) z hz
    · rw [tl_stop hx] at hz
      rw [List.mem_singleton.mp hz]
      omega
theorem written_in {number head : Int} {k : Nat} (h0 : 0 ≤ number) (hh0 : 0 ≤ head) (hh1 : head + 2 ^ k ≤ 256) : PySem.W.KBa.In (written number k head) := by
  have hp := pow_lo k
  intro z hz
  unfold written at hz
  split at hz
  · rw [List.mem_singleton.mp hz]
    omega
  · rcases List.mem_cons.mp hz with rfl | hz
    · omega
    · exact tl_in _ _ (Nat.le_refl _) (by omega) z hz
theorem ints_inj {b c : Array UInt8} (h : PySem.W.KBw.bInts b = PySem.W.KBw.bInts c) : b = c := by
  have e : b.toList = c.toList := by
    unfold PySem.W.KBw.bInts at h
    have inj : ∀ (l m : List UInt8), l.map (fun c => (c.toNat : Int)) = m.map (fun c => (c.toNat : Int)) → l = m := by
      intro l
      induction l with
      | nil =>
        intro m hm
        cases m with
        | nil => rfl
        | cons _ _ => cases hm
      | cons x l ih =>
        intro m hm
        cases m with
        | nil => cases hm
        | cons y m =>
          rw [List.map_cons, List.map_cons] at hm
          injection hm with h1 h2
          have : x = y := UInt8.toNat_inj.mp (by omega)
          rw [this, ih m h2]
    exact inj _ _ h
  cases b
  cases c
  exact congrArg Array.mk e
theorem rep_len (x : UInt8) (k : Nat) : (PySem.W.KBw.bInts (List.replicate k [x]).flatten.toArray).length = k := by
  rw [PySem.W.KBw.ints_length]
  simp
end Mine
namespace Mine
theorem range_small : ∀ n : Nat, n ≤ 11 → (PySem.Builtin.Range.small 0 (n : Int) 1 = true ∧ PySem.Builtin.Range.rangeSize 0 (n : Int) 1 = (n : Int)) := by
  have h : ∀ n : Fin 12, (PySem.Builtin.Range.small 0 ((n : Nat) : Int) 1 = true ∧ PySem.Builtin.Range.rangeSize 0 ((n : Nat) : Int) 1 = ((n : Nat) : Int)) := by decide +kernel
  intro n hn
  exact h ⟨n, by omega⟩
end Mine
namespace Mine
theorem one_in {x : Int} (h0 : 0 ≤ x) (h1 : x < 256) : PySem.W.KBa.In [x] := fun z hz => by rw [List.mem_singleton.mp hz]; exact ⟨h0, h1⟩
end Mine
end

section
open PySem PySem.W PyProof.Rows PySem.Spec PySem.Calls
set_option Elab.async false
set_option maxRecDepth 100000
set_option maxHeartbeats 40000000
namespace Mine
def Elt (J : List (Addr × Obj) → Prop) (y : Value) (news' : List (Addr × Obj)) : Prop := J news' ∧ ∃ k t, y = .int k t ∧ 0 ≤ k ∧ k < 256
theorem comp_rest {prog : Program} {w : World} {A : Around} {h₀ : Heap} {L : Addr} {m : Str → Option Value} {env : Env} {elt : Expr} {x : Str} {scope : Scope} {cl : List (Str × Addr)} {s : Shared} {S : List (Addr × Obj) → Prop} {P : Nat → Value → Prop} {Fin : List Value → List (Addr × Obj) → Prop} {n : Nat} (J : List (Addr × Obj) → Prop)
    (turn : ∀ v I oI C oC D m₂ ys h tk (E' : Value → Shared → Prop) news, J news → LCg.NsObj oC m₂ → m₂ x = some v → Fr h₀ L h m → News h₀ L h ((I, oI) :: (C, oC) :: (D, LCg.lst ys) :: news) → LCg.Off3 I C D news → ((@Ne Nat I C) ∧ (@Ne Nat I D) ∧ (@Ne Nat C D)) →
      wpAny (model prog w) A (eval elt (compEnvC scope cl C env)) (LCg.CompEnd h₀ L m { s with heap := h, toks := tk } I oI C oC D (LCg.lst ys) S (Elt J)) E' { s with heap := h, toks := tk })
    (fin : ∀ ys ks news, IntsAre ys ks → KBa.In ks → ks.length = n → J news → Fin ys news) :
    ∀ (j i : Nat) (ys : List Value) (ks : List Int) (news : List (Addr × Obj)), i + j = n → IntsAre ys ks → KBa.In ks → ks.length = i → J news → LCg.CompRest prog w A h₀ L m env elt x scope cl s S P Fin j i ys news := by
  intro j
  induction j with
  | zero =>
    intro i ys ks news hi hy hr hl hJ
    exact LCg.CompRest.zero (fin ys ks news hy hr (by omega) hJ)
  | succ j ih =>
    intro i ys ks news hi hy hr hl hJ
    refine LCg.CompRest.succ ?_
    intro v I oI C oC D m₂ h tk E' hv hC hx F N off ne
    refine wpAny_mono (turn v I oI C oC D m₂ ys h tk E' news hJ hC hx F N off ne) (fun y s₂ hq => ?_) fun _ _ e => e
    obtain ⟨h', tk', nw, e, F', N', off', hS, hJ', k, t, rfl, k0, k1⟩ := hq
    refine ⟨h', tk', nw, e, F', N', off', hS, ?_⟩
    refine ih (i + 1) _ (ks ++ [k]) nw (by omega) (IntsAre.append hy (.cons k t .nil)) (fun z hz => ?_) (by simp [hl]) hJ'
    rcases List.mem_append.mp hz with hz | hz
    · exact hr z hz
    · rw [List.mem_singleton.mp hz]
      exact ⟨k0, k1⟩
theorem takes_comp {prog : Program} {w : World} {A : Around} {h₀ : Heap} {L : Addr} {m : Str → Option Value} {env : Env} {elt : Expr} {x : Str} {scope : Scope} {cl : List (Str × Addr)} {s₁ : Shared} {Fin : Shared → List Value → List (Addr × Obj) → Prop} {r : Addr} {v : Int} {t u w9 : Tok} {news : List (Addr × Obj)} (J : List (Addr × Obj) → Prop)
    (hh : A.handled = none) (F : Fr h₀ L s₁.heap m) (N : News h₀ L s₁.heap news) (hr : IsRange s₁.heap r 0 v 1 t u w9) (h0 : 0 ≤ v) (h9 : v < 9) (hJ : J news)
    (turn : ∀ g v I oI C oC D m₂ ys h tk (E' : Value → Shared → Prop) news, J news → LCg.NsObj oC m₂ → m₂ x = some v → Fr h₀ L h m → News h₀ L h ((I, oI) :: (C, oC) :: (D, LCg.lst ys) :: news) → LCg.Off3 I C D news → ((@Ne Nat I C) ∧ (@Ne Nat I D) ∧ (@Ne Nat C D)) →
      wpAny (model prog w) A (eval elt (compEnvC scope cl C env)) (LCg.CompEnd h₀ L m { s₁ with heap := h, toks := tk } I oI C oC D (LCg.lst ys) (fun _ => True) (Elt J)) E' { { s₁ with heap := g } with heap := h, toks := tk })
    (fin : ∀ g ys ks news, IntsAre ys ks → KBa.In ks → ks.length ≤ 8 → J news → Fin { s₁ with heap := g } ys news) : LCg.CompSrc prog w A h₀ L m env elt x scope cl Fin (.ref r) s₁ := by
  obtain ⟨n, rfl⟩ := Int.eq_ofNat_of_zero_le h0
  refine LCg.CompSrc.range hh F N hr (range_small n (by omega)).1 (range_small n (by omega)).2 (by rw [sizeLine_eq]; omega) fun g => ?_
  exact comp_rest (n := n) (s := { s₁ with heap := g }) J (fun v I oI C oC D m₂ ys h tk E' news => turn g v I oI C oC D m₂ ys h tk E' news) (fun ys ks news hi hr hl hJ => fin g ys ks news hi hr (by omega) hJ) n 0 [] [] news (by omega) .nil (fun _ h => nomatch h) rfl hJ
end Mine
end

section
open PySem PySem.W PyProof.Rows PySem.Spec PySem.Calls
set_option Elab.async false
set_option maxRecDepth 100000
set_option maxHeartbeats 40000000
namespace Mine
theorem wpC_or {M : Model} {A : Around} {E : Value → Shared → Prop} {s : Shared} {env : Env} {x : Expr} {rest : List Expr} {pos : Pos} {Q : Bool → Shared → Prop} {sx : Sem Value}
    (h : wpC M A (isTrue x env (eval x env)) (fun b s' => wpC M A (if b = true then pure true else allTrue .Or rest env) Q E s') E s) : wpC M A (isTrue (.BoolOp .Or (x :: rest) pos) env sx) Q E s := by
  show wpC M A (allTrue .Or (x :: rest) env) Q E s
  refine wpC_bind (wpC_mono h (fun b s' k => ?_) fun _ _ x => x)
  cases b with
  | true => exact k
  | false => exact k
theorem wpC_or_last {M : Model} {A : Around} {E : Value → Shared → Prop} {s : Shared} {env : Env} {x : Expr} {Q : Bool → Shared → Prop}
    (h : wpC M A (isTrue x env (eval x env)) Q E s) : wpC M A (allTrue .Or [x] env) Q E s := by
  refine wpC_bind (wpC_mono h (fun b s' k => ?_) fun _ _ x => x)
  cases b with
  | true => exact wpC_pure k
  | false => exact wpC_pure k
theorem pow_next {k : Int} (h : 0 ≤ k) : (2 : Int) ^ (k + 1).toNat = 2 * 2 ^ k.toNat := by
  rw [show (k + 1).toNat = k.toNat + 1 by omega, Int.pow_succ, Int.mul_comm]
theorem pow_suc {k : Int} (h : 0 ≤ k) : (2 : Int) ^ (k + 1).toNat = 2 ^ (k.toNat + 1) := by
  rw [show (k + 1).toNat = k.toNat + 1 by omega]
end Mine
end

section
open PySem PySem.W PyProof.Rows PySem.Spec PySem.Calls PySem.SeqAt
set_option Elab.async false
set_option maxRecDepth 100000
set_option maxHeartbeats 40000000
namespace Mine
theorem eqAt_bytes {A : Around} {s : Shared} (x : Array UInt8) (t u : Tok) : EqAt A s (.bytes x t) (.bytes x u) true := fun prog w E Q h => by
  unfold eqBool
  refine wpAny_holding ?_
  refine wpAny_ite_split (fun hab => ?_) (fun hab => ?_)
  · exact wpAny_bind (wpAny_rule (wpAny_pure h))
  · exact wpAny_bind (richCompare_gives (op := .Eq) (T := "bytes") rfl rfl FB.slot_bytes_eq FB.entry_bytes_eq (FB.args_bytes_eq_2 _ _) (gives_bytes_eq x x t u) (fun e => nomatch e) (wpAny_truthy_bool (by simpa using h)))
theorem ne_pair {prog : Program} {w : World} {A : Around} {E : Value → Shared → Prop} {s : Shared} {l b : Addr} {x y : Array UInt8} {n m : Int} {t1 t2 t3 t4 : Tok} {Q : Value → Shared → Prop}
    (hl : s.heap.IsTuple l #[.bytes x t1, .int n t2]) (hb : s.heap.IsTuple b #[.bytes y t3, .int m t4]) (hu : A.units < cLine) (hx : x = y) (hn : n = m) (h : Q (.bool false) s) :
    wpAny (model prog w) A (compareOp .NotEq (.ref l) (.ref b)) Q E s := by
  subst hx hn
  refine RcNeAt.tuples (e := fun _ => true) hl hb hu (fun j h1 h2 => ?_) prog w E Q ?_
  · match j, h1 with
    | 0, _ => exact eqAt_bytes x t1 t3
    | 1, _ =>
      have := EqAt.int_int (A := A.in1) (s := s) n t2 n t4
      rw [beq_self_eq_true] at this
      exact this
  · exact h
end Mine
end

section
open PySem PySem.W PyProof.Rows PySem.Spec PySem.Calls PySem.SeqAt
set_option Elab.async false
set_option maxRecDepth 100000
set_option maxHeartbeats 40000000
namespace Mine
theorem text_cut {head : Int} {k : Nat} (txt : List Int) (hk : 1 ≤ k) (hz : txt.length ≤ 1000) (hm : head % 2 ^ (k + 1) = 0) :
    getT (List.take (clipAt (written txt.length k head ++ txt).length (((written txt.length k head).length + txt.length : Nat) - 1 : Int)) (written txt.length k head ++ txt)) 0 k = .short := by
  obtain ⟨c, r, he, c0, c1⟩ := first_of (number := txt.length) (head := head) (k := k) (by omega)
  have hw : 1 ≤ (written txt.length k head).length := by rw [he]; simp
  rw [show (((written txt.length k head).length + txt.length : Nat) : Int) - 1 = (((written txt.length k head ++ txt).length - 1 : Nat) : Int) by rw [List.length_append]; omega, clipAt_nat, Nat.min_eq_left (by omega)]
  exact text_short txt hk hz hm
theorem first_low {head : Int} {k : Nat} (txt : List Int) (hh : head + 2 ^ (k + 1) ≤ 256) : List.getD (written txt.length k head ++ txt) (Int.toNat 0) 0 + 2 ^ k < 256 := by
  obtain ⟨c, r, he, c0, c1⟩ := first_of (number := txt.length) (head := head) (k := k) (by omega)
  rw [Int.pow_succ] at hh
  rw [he, show List.getD ((head + c) :: r ++ txt) (Int.toNat 0) 0 = head + c from rfl]
  omega
theorem text_huff {head : Int} {k : Nat} (txt rest : List Int) (hm : head % 2 ^ (k + 1) = 0) : getT ([List.getD (written txt.length k head ++ txt) (Int.toNat 0) 0 + 2 ^ k] ++ rest) 0 k = .big :=
  text_big txt rest hm rfl
end Mine
end

section
open PySem PySem.W PyProof.Rows PySem.Spec PySem.Calls
open Sem (wp)
set_option Elab.async false
set_option maxRecDepth 100000
set_option maxHeartbeats 40000000
namespace Mine
theorem enterCells {prog : Program} {w : World} {A : Around} {R : Result → Shared → Prop} {s : Shared} {name : Str} {params : Arguments} {body : List Stmt} {scope : Scope}
    {pm cd doc : Value} {a : Addr} {o : Obj} {args : List Value} {binds : List (Str × Value)}
    (hroom : A.depth < recursionLimit) (ho : s.heap.get? a = some o) (hdata : o.data = .func (Calls.docDef name params body scope pm cd doc)) (hlim : s.heap.NoLimit) (hcd : s.heap.CodeRec cd name)
    (hbind : bindArgs (Calls.docDef name params body scope pm cd doc) ⟨args, []⟩ = pure binds)
    (hkind : ∀ x ∈ binds, scope.names.lookup x.1 = some .local ∨ (scope.names.lookup x.1 = some .cell ∧ ((cellsFrom (s.heap.objs.size + 1) scope.names []).lookup x.1).isSome = true))
    (hnd : ((cellsFrom 0 scope.names []).map (·.1)).Nodup)
    (h : ∀ h₁ tk cells, Fr s.heap s.heap.objs.size h₁ (bindL (envOfC name scope s.heap.objs.size a cd).kindOf binds fun _ => none) → News s.heap s.heap.objs.size h₁ cells →
      CellsAre (bindC (envOfC name scope s.heap.objs.size a cd).kindOf binds fun _ => none) (cellsFrom (s.heap.objs.size + 1) scope.names []) cells →
      wpC (model prog w) (A.deeper (envOfC name scope s.heap.objs.size a cd)) (execs body (envOfC name scope s.heap.objs.size a cd))
        (fun f s' => R (.ok (.ret (match f with | .ret v => v | _ => .none))) s') Nev { s with heap := h₁, toks := tk })
    (hco : scope.isCoroutine = false) (hgen : scope.isGenerator = false) (hk : scope.kind = .function) :
    codeC (model prog w) A (.call (.ref a) ⟨args, []⟩) R s := by
  obtain ⟨c, ocd, vs, tq, hc, hoc, hdc, hq⟩ := hcd
  refine codeC_tree (wpC_of ?_)
  show wpAny _ A.in1 (callAny (.ref a) ⟨args, []⟩) _ _ s
  unfold callAny
  refine wpAny_bind (wpAny_load ho ?_)
  rw [hdata]
  dsimp only
  unfold callFunction
  rw [hbind]
  have hfc : (Calls.docDef name params body scope pm cd doc).code = cd := rfl
  rw [hfc, hc]
  refine wpAny_bind (m := field (.ref c) 1) (wpAny_field hoc hdc hq (wpAny_bind (wpAny_pure ?_)))
  refine wpAny_bind (wpAny_pure ?_)
  refine wpAny_bind (wpAny_newFunctionEnv_cells hk hkind fun env he s' X => ?_)
  refine wpAny_bind (wpAny_enterFrame (hlim.keeps X.toInCall.keep) hroom ?_)
  subst he
  subst hc
  obtain ⟨h₁, tk, rfl, _⟩ := X.done
  obtain ⟨cells, N, Y⟩ := Cl.news (h₀ := s.heap) (Nat.le_refl _) fun n c hm => ⟨X.cell n c (lookup_of_mem_nodup (cellsFrom_names scope.names 0 (s.heap.objs.size + 1) [] [] rfl ▸ hnd) hm), X.above n c hm⟩
  have main := h h₁ tk cells ⟨X.toInCall.ns, X.toInCall.keep, X.toInCall.fresh⟩ N Y
  have e1 : (Calls.docDef name params body scope pm (.ref c) doc).scope.isGenerator = false := hgen
  have e2 : (Calls.docDef name params body scope pm (.ref c) doc).scope.isCoroutine = false := hco
  rw [e1, e2]
  exact wpAny_pure ⟨rfl, rfl, codeC_func main⟩
end Mine
end

section
open PySem PySem.W PyProof.Rows PySem.Spec PySem.Calls
open Sem (wp)
set_option Elab.async false
set_option maxRecDepth 100000
set_option maxHeartbeats 40000000
namespace Mine
abbrev itOf (x left : Int) : Obj := { cls := .type "range_iterator", data := .fields #[rawInt x, rawInt left, rawInt 1] }
section
variable {prog : Program} {w : World} {A : Around} {E : Value → Shared → Prop} {s : Shared} {env : Env} {h₀ : Heap}
theorem fr_but {g h h' : Heap} {L D : Addr} {m : Str → Option Value} {o : Obj} {news : List (Addr × Obj)} (F : Fr g L h m) (N : News g L h news) (hm : (D, o) ∈ news) (hs : Heap.SameBut D h h') : Fr g L h' m := by
  obtain ⟨oL, es, ep, ho, hd, r⟩ := F.ns
  have hne : L ≠ D := fun q => (N _ hm).2.1 q.symm
  refine ⟨⟨oL, es, ep, (hs.2 L hne).trans ho, hd, r⟩, fun b o e => ?_, F.above⟩
  have hb : b ≠ D := fun q => by
    have := (N _ hm).2.2
    dsimp only at this
    rw [← q, e] at this
    cases this
  exact (hs.2 b hb).trans (F.keep b o e)
def RangeAt (h₀ : Heap) (L : Addr) (s : Shared) (J : List (Addr × Obj) → Prop) (I : Addr) (io : Obj) (s' : Shared) : Prop :=
  ∃ h tk m led, s' = { s with heap := h, toks := tk } ∧ Fr h₀ L h m ∧ News h₀ L h (led ++ [(I, io)]) ∧ (∀ p ∈ led, p.1 ≠ I) ∧ J led
theorem codeC_range {x : Str} {px : Pos} {body : List Stmt} {I : Addr} {R : Result → Shared → Prop} {J : List (Addr × Obj) → Prop} (hh : A.handled = none) (hx : env.kindOf x = some .local)
    (hp : (env.scope.kind == .class || (env.scope.kind == .module && env.locals != env.globals)) = false)
    (turn : ∀ (h : Heap) (tk : Nat) (m : Str → Option Value) (led : List (Addr × Obj)) (v : Int) (t : Tok) (io : Obj), Fr h₀ env.locals h (fun y => if y = x then some (.int v t) else m y) → News h₀ env.locals h (led ++ [(I, io)]) → (∀ p ∈ led, p.1 ≠ I) → J led →
      wpC (model prog w) A (execs body env) (fun f s₃ => f = .next ∧ RangeAt h₀ env.locals s J I io s₃) Nev { s with heap := h, toks := tk })
    (done : ∀ (h : Heap) (tk : Nat) (m : Str → Option Value) (led : List (Addr × Obj)), Fr h₀ env.locals h m → News h₀ env.locals h led → J led → R (.ok .next) { s with heap := h, toks := tk }) :
    ∀ (k : Nat) (a : Int) (s' : Shared), RangeAt h₀ env.locals s J I (itOf a k) s' → codeC (model prog w) A (.forLoop (.Name x px) (.ref I) body [] env) R s' := by
  intro k
  induction k with
  | zero =>
    rintro a s' ⟨h, tk, m, led, rfl, F, N, hI, hJ⟩
    have hit : h.get? I = some (itOf a (0 : Nat)) := (N _ (List.mem_append_right _ (.head _))).1
    refine codeC_tree ?_
    rw [Around.under_of_weight (c := .forLoop (.Name x px) (.ref I) body [] env) rfl rfl]
    show wpC _ A ((forTurn (.Name x px) (.ref I) body [] env).onRaise _) _ _ _
    refine wpC_onRaise ?_
    unfold forTurn
    refine wpC_step (wpAny_standAt (wpC_step (wpAny_onRaise (wpAny_pyNext_range_end hh hit (by simp) fun h' he => ?_))))
    refine wpC_pure ⟨rfl, rfl, codeC_tree ?_⟩
    rw [Around.under_of_weight (c := .block [] env) rfl rfl]
    refine wpC_of ?_
    show wpAny _ A (do return Fin.done (← (execs [] env).onRaise _)) _ _ _
    refine wpAny_bind (wpAny_onRaise (wpAny_pure (wpAny_pure ?_)))
    have hL : env.locals ≠ I := fun q => (N _ (List.mem_append_right _ (.head _))).2.1 q.symm
    refine done h' _ m led ⟨F.ns.at' fun o e => he _ o hL e, fun b o e => ?_, F.above⟩ (fun p hp => ⟨he _ _ (hI p hp) (N p (List.mem_append_left _ hp)).1, (N p (List.mem_append_left _ hp)).2⟩) hJ
    refine he b o (fun q => ?_) (F.keep b o e)
    have := (N _ (List.mem_append_right led (.head []))).2.2
    dsimp only at this
    rw [← q, e] at this
    cases this
  | succ k ih =>
    rintro a s' ⟨h, tk, m, led, rfl, F, N, hI, hJ⟩
    have hit : h.get? I = some (itOf a ((k + 1 : Nat) : Int)) := (N _ (List.mem_append_right _ (.head _))).1
    refine codeC_tree ?_
    rw [Around.under_of_weight (c := .forLoop (.Name x px) (.ref I) body [] env) rfl rfl]
    show wpC _ A ((forTurn (.Name x px) (.ref I) body [] env).onRaise _) _ _ _
    refine wpC_onRaise ?_
    unfold forTurn
    refine wpC_step (wpAny_standAt (wpC_step (wpAny_onRaise (wpAny_pyNext_range_item hit (by omega) fun h1 hit1 hs1 => ?_))))
    refine wpC_step (wpAny_of_eq (a := ()) rfl ?_)
    have hm := List.mem_append_right led (List.Mem.head (a := (I, itOf a ((k + 1 : Nat) : Int))) [])
    have F1 := fr_but F N hm hs1
    have e1 : ((k + 1 : Nat) : Int) - 1 = ((k : Nat) : Int) := by omega
    rw [e1] at hit1
    have N1 : News h₀ env.locals h1 (led ++ [(I, itOf (a + 1) (k : Nat))]) := fun p hp => by
      rcases List.mem_append.mp hp with hp | hp
      · exact ⟨(hs1.2 _ (hI p hp)).trans (N p (List.mem_append_left _ hp)).1, (N p (List.mem_append_left _ hp)).2⟩
      · rw [List.mem_singleton.mp hp]
        exact ⟨hit1, (N _ hm).2⟩
    refine wpC_step (wpAny_assign_Name (wpAny_storeName_local hx F1.ns (fun h2 hn2 hs2 => ?_) hp))
    refine wpC_bind (wpC_mono (turn h2 _ m led a _ _ (F1.set hn2 hs2) (N1.set hs2) hI hJ) (fun f s₃ hf => ?_) fun _ _ x => x)
    obtain ⟨rfl, hf⟩ := hf
    exact wpC_pure ⟨rfl, rfl, ih (a + 1) s₃ hf⟩
theorem wpC_range {x : Str} {px pos : Pos} {iter : Expr} {body : List Stmt} {J : List (Addr × Obj) → Prop} {Q : Flow → Shared → Prop} (hx : env.kindOf x = some .local)
    (hp : (env.scope.kind == .class || (env.scope.kind == .module && env.locals != env.globals)) = false) (hh : A.handled = none) (hfo : ∀ x, foldedSetIterable iter env x = pure x)
    (h : wpAny (model prog w) A (eval iter env) (fun xv s₁ => wpAny (model prog w) A (pyIter xv) (fun it s₂ => ∃ I a k, it = .ref I ∧ RangeAt h₀ env.locals s J I (itOf a ((k : Nat) : Int)) s₂) Nev s₁) Nev s)
    (turn : ∀ (I : Addr) (h : Heap) (tk : Nat) (m : Str → Option Value) (led : List (Addr × Obj)) (v : Int) (t : Tok) (io : Obj), Fr h₀ env.locals h (fun y => if y = x then some (.int v t) else m y) → News h₀ env.locals h (led ++ [(I, io)]) → (∀ p ∈ led, p.1 ≠ I) → J led →
      wpC (model prog w) A (execs body env) (fun f s₃ => f = .next ∧ RangeAt h₀ env.locals s J I io s₃) Nev { s with heap := h, toks := tk })
    (done : ∀ (h : Heap) (tk : Nat) (m : Str → Option Value) (led : List (Addr × Obj)), Fr h₀ env.locals h m → News h₀ env.locals h led → J led → Q .next { s with heap := h, toks := tk }) :
    wpC (model prog w) A (exec (.For (.Name x px) iter body [] pos) env) Q Nev s := by
  show wpC _ A (do
    standAt pos
    let x ← foldedSetIterable iter env (← eval iter env)
    standAt iter.pos
    runOwn (.forLoop _ (← holding [x] (pyIter x)) body [] env) env) Q Nev s
  refine wpC_step (wpAny_standAt (wpC_step (wpAny_mono h (fun xv s₁ h₁ => wpC_step (wpAny_of_eq (hfo xv) (wpC_step (wpAny_standAt (wpC_step (wpAny_holding (wpAny_mono h₁ (fun it s₂ h₂ => ?_) fun _ _ x => x))))))) fun _ _ x => x)))
  obtain ⟨I, a, k, rfl, hR⟩ := h₂
  unfold runOwn
  refine wpC_onRaise (wpC_run ?_)
  exact codeC_range (R := fun r s' => match r with | .ok f => Q f s' | .error e => Nev e s') hh hx hp (turn I) done k a s₂ hR
def Both (P Q : Prop) : Prop := P ∧ Q
theorem wpC_callRef {M : Model} {pos : Pos} {f : Addr} {first : List Value} {args : List (Bool × Sem Value)} {x : Sem Value} {rest : List (Bool × Sem Value)} {Q : Value → Shared → Prop}
    (ha : args = (false, x) :: rest) (hp : args.any (·.1) = false) (hlen : args.length ≤ 30)
    (h : wpAny M A (spliced args) (fun vs s₁ => Both (∃ o fd, s₁.heap.get? f = some o ∧ o.data = .func fd) (wpC M A (call (.ref f) (first ++ vs) []) Q E s₁)) E s) :
    wpC M A (callWith pos (.ref f) first args []) Q E s :=
  wpC_callPos ha hp hlen h
end
end Mine
end

section
open PySem PySem.W PyProof.Rows PySem.Spec PySem.Calls
set_option Elab.async false
set_option maxRecDepth 100000
set_option maxHeartbeats 40000000
namespace Mine
theorem fillLaw2 : ∀ (o : OpenLaw) (f : Params → Frag), o = Challenge.rw_no0050_01 → f = hd.heap_39 → True := by
  k_fill
  w_top off
  intros; trivial
local macro_rules | `(tactic| walk_at "pyIter ref") => `(tactic| (refine stop_at ?_))
local macro_rules | `(tactic| walk_at "call ref") => `(tactic| (refine stop_at ?_))
local macro_rules | `(tactic| walk_at "zz fst") => `(tactic| ((case zzC => k_asm); (case zzB => k_asm); (case zzF => k_asm); (case zzN => k_asm); (case zzhf => exact rfl); (case zzhk => exact rfl); (case zzd => ktr_room); (case zzu => ktr_units)))
local macro_rules | `(tactic| walk_at "call ref") => `(tactic| (k_here; k_dflt (refine' box_use ?zzC ?zzB ?zzF ?zzN ?zzhf ?zzhk ?zzd ?zzu ?zzhL ?zzhI ?zzz ?_; (walk_at "zz fst"); (case zzhL => assumption); (case zzhI => assumption); (case zzz => omega)); (intro D9 l9 vs9 ns9 n0 n1 st9 t9 h' tk' F' N' hlt9 hi9 hz9 s0 s1)))
local macro_rules | `(tactic| walk_at "zz take") => `(tactic| ((case zzN => k_asm); (case zzB => k_asm); (case zzF => k_asm); (case zzK => k_asm); (case zzT => k_asm); (case zzhk => exact rfl); (case zzd => ktr_room); (case zzu => ktr_units); (case zzbl => assumption); (case zzhb => (simp only [List.nil_append, List.cons_append, List.forall_mem_cons, List.not_mem_nil, false_implies, implies_true, and_true]; (repeat' apply And.intro) <;> (first | assumption | (exact Ne.symm (by assumption)) | (refine neN ?_; omega)))); (case zzhl => (simp only [List.nil_append, List.cons_append, List.forall_mem_cons, List.not_mem_nil, false_implies, implies_true, and_true]; (repeat' apply And.intro) <;> (first | assumption | (exact Ne.symm (by assumption)) | (refine neN ?_; omega)))); (case zzhi => assumption); (case zzz => assumption); (case zzs0 => assumption); (case zzs1 => assumption); (case zzw0 => (first | decide | omega | (exact Int.pow_pos (by decide)))); (case zzw1 => (first | decide | omega | (exact pow_lt63 (by omega))))))
local macro_rules | `(tactic| walk_at "call ref") => `(tactic| (k_here; k_dflt ((first | ((refine' take_use [] ?zzB ?zzF ?zzK ?zzN ?zzT ?zzhk ?zzd ?zzu ?zzbl ?zzhb ?zzhl ?zzhi ?zzz ?zzs0 ?zzs1 ?zzw0 ?zzw1 ?_); (walk_at "zz take")) | ((refine' take_use [_] ?zzB ?zzF ?zzK ?zzN ?zzT ?zzhk ?zzd ?zzu ?zzbl ?zzhb ?zzhl ?zzhi ?zzz ?zzs0 ?zzs1 ?zzw0 ?zzw1 ?_); (walk_at "zz take")) | ((refine' take_use [_, _] ?zzB ?zzF ?zzK ?zzN ?zzT ?zzhk ?zzd ?zzu ?zzbl ?zzhb ?zzhl ?zzhi ?zzz ?zzs0 ?zzs1 ?zzw0 ?zzw1 ?_); (walk_at "zz take")) | ((refine' take_use [_, _, _] ?zzB ?zzF ?zzK ?zzN ?zzT ?zzhk ?zzd ?zzu ?zzbl ?zzhb ?zzhl ?zzhi ?zzz ?zzs0 ?zzs1 ?zzw0 ?zzw1 ?_); (walk_at "zz take")))); (intro v9 t9 h' tk' st' stt' n0' n1' vs' ns' v0 v1 s0' s1' hi' hz' F' N'; dsimp only [List.nil_append, List.cons_append] at N')))
local macro_rules | `(tactic| walk_at "call ref") => `(tactic| (k_here; k_dflt (refine' written_use ?zzC ?zzB ?zzF ?zzN ?zzhf ?zzhk ?zzd ?zzu ?zza ?zzb ?zzc ?zze ?zzg ?zzh ?_; (walk_at "zz fst"); (case zza => omega); (case zzb => omega); (case zzc => omega); (case zze => omega); (case zzg => omega); (case zzh => omega)); (intro D9 vs9 n9 h' tk' hi9 F' N')))
local macro_rules | `(tactic| walk_at "call type:bytes") => `(tactic| (k_here; (with_reducible show wpAny _ _ (call (Value.type "bytes") [Value.ref _]) _ _ _); k_dflt (refine' bytes_made ?zzF ?zzN ?zzh ?zzm ?zzi ?zzr ?zzz ?_; (case zzF => k_asm); (case zzN => k_asm); (case zzh => rfl); (case zzm => k_mem); (case zzi => (first | assumption | exact IntsAre.cons _ _ IntsAre.nil)); (case zzr => (first | exact written_in (by omega) (by omega) (by omega) | exact one_in (by omega) (by omega))); (case zzz => (first | (refine Nat.le_trans (written_len (by omega) (by omega)).2 ?_; decide) | exact Nat.le_of_ble_eq_true rfl))); intro b9 h' t9 k9 hb9 F' N'))
local macro_rules | `(tactic| walk_at "zz read") => `(tactic| ((walk_at "zz fst"); (case zzhD => k_asm); (case zzx => assumption); (case zzz => ((try simp only [List.length_append, List.length_take, List.length_drop, List.length_map, List.length_cons, List.length_nil, List.length_replicate]); omega)); (case zza => omega); (case zzb => omega); (case zzc => omega); (case zze => omega)))
local macro_rules | `(tactic| walk_at "call ref") => `(tactic| (k_here; k_dflt (refine' read_ok ?zzC ?zzB ?zzF ?zzN ?zzhf ?zzhk ?zzd ?zzu ?zzhD ?zzx ?zzz ?zza ?zzb ?zzc ?zze ?_; (walk_at "zz read")); (intro D9 t1 t2 h' tk' F' N')))
local macro_rules | `(tactic| walk_at "call ref") => `(tactic| (k_here; k_dflt (refine' read_sh ?zzC ?zzB ?zzF ?zzN ?zzhf ?zzhk ?zzd ?zzu ?zzhD ?zzx ?zzz ?zza ?zzb ?zzc ?zze ?_; (walk_at "zz read")); (intro t9 h' tk' F' N')))
local macro_rules | `(tactic| walk_at "call ref") => `(tactic| (k_here; k_dflt (refine' read_bg ?zzC ?zzB ?zzF ?zzN ?zzhf ?zzhk ?zzd ?zzu ?zzhD ?zzx ?zzz ?zza ?zzb ?zzc ?zze ?_; (walk_at "zz read")); (intro t9 h' tk' F' N')))
local macro_rules | `(tactic| walk_at "call ref") => `(tactic| (k_here; k_dflt (refine' rtext_ok ?zzC ?zzB ?zzF ?zzN ?zzhf ?zzhk ?zzd ?zzu ?zzhD ?zzx ?zzz ?zza ?zzb ?zzc ?zze ?_; (walk_at "zz read")); (intro D9 b9 t1 t2 h' tk' hk9 F' N')))
local macro_rules | `(tactic| walk_at "call ref") => `(tactic| (k_here; k_dflt (refine' rtext_sh ?zzC ?zzB ?zzF ?zzN ?zzhf ?zzhk ?zzd ?zzu ?zzhD ?zzx ?zzz ?zza ?zzb ?zzc ?zze ?_; (walk_at "zz read")); (intro t9 h' tk' F' N')))
local macro_rules | `(tactic| walk_at "call ref") => `(tactic| (k_here; k_dflt (refine' rtext_bg ?zzC ?zzB ?zzF ?zzN ?zzhf ?zzhk ?zzd ?zzu ?zzhD ?zzx ?zzz ?zza ?zzb ?zzc ?zze ?_; (walk_at "zz read")); (intro t9 h' tk' F' N')))
local macro_rules | `(tactic| walk_at "exec For") => `(tactic| (k_here; (rename Fr _ _ _ _ => lF'); (with_unfolding_all refine' For_invVF lF' ?zzk1 ?zzk2 ?_; (case zzk1 => exact rfl); (case zzk2 => exact rfl)); k_whole))
theorem mul_low {prog : Program} {w : World} {A : Around} {E : Value → Shared → Prop} {s : Shared} {Q : Value → Shared → Prop} {a b : Int} {t u : Tok} (hb0 : 0 ≤ b) (hb1 : b ≤ 256) (h : Q (.int (a * b) s.toks) { s with toks := s.toks + 1 }) :
    wpAny (model prog w) A (binaryOp .Mult (.int a t) (.int b u)) Q E s := PyProof.Rows.mul_int h (IntMulOk.of_right (intBits_le_64 (by omega) (by omega)))
local macro_rules | `(tactic| walk_at "binaryOp Mult int int") => `(tactic| (k_here; k_dflt (refine' mul_low ?zzl ?zzh ?_; (case zzl => omega); (case zzh => omega))))
local macro_rules | `(tactic| walk_at "CompSrc") => `(tactic| (refine stop_at ?_))
local macro_rules | `(tactic| walk_at "compareOp NotEq ref ref") => `(tactic| (k_here; (with_reducible show wpAny _ _ (compareOp CmpOp.NotEq (Value.ref _) (Value.ref _)) _ _ _); k_dflt (refine' ne_pair ?zzl ?zzr ?zzu ?zzx ?zzn ?_; (case zzl => exact ⟨_, News.get (by k_asm) (by k_mem), rfl, _, rfl⟩); (case zzr => exact ⟨_, News.get (by k_asm) (by k_mem), rfl, _, rfl⟩); (case zzu => ktr_units); (case zzx => exact ints_inj (Eq.trans (by assumption) (Eq.symm (by assumption)))); (case zzn => rw [List.length_append]))))
theorem law_holds : Challenge.rw_no0050_01.Holds := hd (by
  intro w s₀ s₁ mg mb G Y fa o pm cd doc dV kV ho hd' hcd hD hmg hg args vals as hpre hlay hrd hwl hlo
  have KX := kIn_of Y
  have X := (Ground.X G).1
  have V := (Ground.X G).2
  refine Ground.open G ?_
  intro T B D TE TW
  obtain ⟨_, _, he, B0⟩ := based_of_top T rfl hmg ho hd'
  wrow_args hpre hlay hrd hwl hlo
  have K0 := below_caller s₁.heap
  refine ask_any ?main ?dirty
  case dirty =>
    refine wpAny_pure (GoodW.toG ?_)
    exact ⟨.inl ⟨_, .bool true, [], rfl, raisesW_false (by wrow_none_raised), .bool true, (by wrow_post), unshared_nil⟩, fun b o e => e, rfl, hg⟩
  case main =>
    have hdv := Dflts.none hD rfl
    subst hdv
    have hkv := Dflts.noKw hD
    subst hkv
    rename ¬ ((63 : Nat) : Int) < _ => hmost
    rename IntsAre _ _ => hIn
    rename Heap.IsList _ _ _ => hLn
    have C0 : Ctx w (ExcName.means s₀.heap) mg mb s₁.heap s₁.heap [] := ⟨fun b o e => e, Nat.le_refl _, trivial, KX, T⟩
    refine wpC_never (wpC_call ?_)
    refine enterCells (by decide) ho (fd_plain hd') (Top.nolimit T) hcd rfl (kinds_of (by kinds_ok)) (by decide) (fun h₁ tk₁ cells F N0 X0 => ?_) rfl rfl rfl
    cells_open X0
    clear he X0 hcd hD hmg ho hd' B D TE TW G Y V X
    (try k_fold)
    refine wpC_execs_cons (wpC_of ?_)
    k_steps
    rename Fr _ _ _ _ => FF
    rename News _ _ _ _ => NN
    rename _ = Data.cell (some _) => hcl0
    rename IntsAre _ _ => hiB0
    rename List.length _ < 100 => hzB0
    rename (0 : Int) ≤ _ => hs00
    rename _ < (2147483647 : Int) => hs10
    have hDc0 := ne_obj NN (.head _) (.tail _ (.tail _ (.head _))) (by rw [hcl0]; exact fun q => by cases q)
    have hlc0 := ne_obj NN (.tail _ (.head _)) (.tail _ (.tail _ (.head _))) (by rw [hcl0]; exact fun q => by cases q)
    obtain ⟨D, l, n0, n1, st, t, vs, ns, o, hNN, hlt, hDc, hlc, hiB, hzB, hs0, hs1, hcl⟩ : ∃ D l n0 n1 st t vs ns o, News s₁.heap s₁.heap.objs.size _ [(D, listOf #[.ref l, .int st t] n0), (l, listOf vs.toArray n1), (s₁.heap.objs.size + 1, o)] ∧ @LT.lt Nat _ l D ∧ D ≠ s₁.heap.objs.size + 1 ∧ l ≠ s₁.heap.objs.size + 1 ∧ IntsAre vs ns ∧ ns.length < 100 ∧ 0 ≤ st ∧ st < 2147483647 ∧ o.data = .cell (some (.ref D)) :=
      ⟨_, _, _, _, _, _, _, _, _, NN, by assumption, hDc0, hlc0, hiB0, hzB0, hs00, hs10, hcl0⟩
    clear F N0 NN hDc0 hlc0 hiB0 hzB0 hs00 hs10 hcl0 hmost
    refine wpC_cut (s := s₁) (fun tk2 => ?_)
    refine wpC_execs_cons (wpC_range (h₀ := s₁.heap) (J := fun led => ∃ n0 n1 st t vs ns o, led = [(D, listOf #[.ref l, .int st t] n0), (l, listOf vs.toArray n1), (s₁.heap.objs.size + 1, o)] ∧ IntsAre vs ns ∧ ns.length < 100 ∧ 0 ≤ st ∧ st < 2147483647 ∧ o.data = .cell (some (.ref D))) rfl rfl rfl (fun _ => rfl) ?iter ?turn ?done)
    case iter =>
      k_steps
      unfold Stop
      rename IsRange _ _ _ _ _ _ _ _ => hrg
      rename Fr _ _ _ _ => FR
      rename News _ _ _ _ => NR
      refine wpAny_pyIter_range hrg (by decide +kernel) ⟨_, 0, 2, rfl, _, _, _, _, rfl, FR.push _, news_push FR NR rfl, ?_, ⟨_, _, _, _, _, _, _, rfl, hiB, hzB, hs0, hs1, hcl⟩⟩
      intro p hp q
      exact absurd (Heap.lt_size (NR p hp).1) (q ▸ Nat.lt_irrefl _)
    case done =>
      rintro h tk m led F1 N1 _
      dsimp only
      refine wpC_execs_cons (wpC_of ?_)
      k_steps
      exact GoodW.toG ⟨.inl ⟨_, .bool true, [], rfl, raisesW_false (by wrow_none_raised), .bool true, (by wrow_post), unshared_nil⟩, F1.keep, rfl, hg⟩
    case turn =>
      clear hiB hzB hs0 hs1 hcl hNN
      rintro I h tk m led v t9 io F1 N1 hI9 ⟨n0, n1, st, t, vs, ns, o, rfl, hiB, hzB, hs0, hs1, hcl⟩
      simp only [List.cons_append, List.nil_append] at N1
      have hDI := hI9 _ (.head _)
      have hlI := hI9 _ (.tail _ (.head _))
      dsimp only at hDI hlI
      have hcI := hI9 _ (.tail _ (.tail _ (.head _)))
      dsimp only at hcI
      clear hI9
      -- S1
      refine wpC_next (Post := fun s' => ∃ (form bits : Int) (t2 t3 : Tok) (u : Str → Option Value) (h : Heap) (tk : Nat), s' = { s₁ with heap := h, toks := tk } ∧ Fr s₁.heap s₁.heap.objs.size h (kstB u [(Str.ofString "bits", .int bits t2), (Str.ofString "form", .int form t3)]) ∧ Led s₁.heap s₁.heap.objs.size D l I o io h ∧ 0 ≤ form ∧ form < 4 ∧ 1 ≤ bits ∧ bits ≤ 8) ?zzA1 ?zzB1
      case zzA1 =>
        refine wpC_of ?_
        k_steps
        rename Fr _ _ _ _ => FF
        rename News _ _ _ _ => NN
        exact ⟨rfl, _, _, _, _, _, _, _, rfl, (fr_add (x := Str.ofString "bits") (fr_add (x := Str.ofString "form") (fr_nil FF) rfl) rfl), ⟨_, _, _, _, _, _, fun p hp => NN p (.tail _ hp), by assumption, by assumption, by assumption, by assumption⟩, by assumption, by assumption, by omega, by omega⟩
      case' zzB1 => clear F1 N1 hiB hzB hs0 hs1
      rintro s2 ⟨form, bits, t2, t3, u, h, tk, rfl, FI, ⟨n0, n1, st, t, vs, ns, NI, hiB, hzB, hs0, hs1⟩, hf0, hf1, hb0, hb1⟩
      -- S2
      refine wpC_next (Post := fun s' => ∃ (number : Int) (t1 t2 : Tok) (u : Str → Option Value) (h : Heap) (tk : Nat), s' = { s₁ with heap := h, toks := tk } ∧ Fr s₁.heap s₁.heap.objs.size h (kstB u [(Str.ofString "number", .int number t1), (Str.ofString "bits", .int bits t2)]) ∧ Led s₁.heap s₁.heap.objs.size D l I o io h ∧ 0 ≤ number ∧ number ≤ 4611686018427387903) ?zzA2 ?zzB2
      case zzA2 =>
        refine wpC_of ?_
        k_steps
        clear hiB hzB hs0 hs1
        rename Fr _ _ _ _ => FF
        rename News _ _ _ _ => NN
        exact ⟨rfl, _, _, _, _, _, _, rfl, (fr_add (x := Str.ofString "number") (fr_add (x := Str.ofString "bits") (fr_nil FF) rfl) rfl), ⟨_, _, _, _, _, _, fun p hp => NN p (.tail _ hp), by assumption, by assumption, by assumption, by assumption⟩, (menu_in _ (by assumption) (by assumption) (by assumption) (by assumption) (by assumption) (by assumption) hb0 hb1).1, (menu_in _ (by assumption) (by assumption) (by assumption) (by assumption) (by assumption) (by assumption) hb0 hb1).2⟩
      case' zzB2 => clear FI NI hiB hzB hs0 hs1 hf0 hf1
      rintro s2 ⟨number, t1, t2, u, h, tk, rfl, FI, ⟨n0, n1, st, t, vs, ns, NI, hiB, hzB, hs0, hs1⟩, hn0, hn1⟩
      -- S3
      refine wpC_next (Post := fun s' => ∃ (head : Int) (t0 t1 t2 : Tok) (u : Str → Option Value) (h : Heap) (tk : Nat), s' = { s₁ with heap := h, toks := tk } ∧ Fr s₁.heap s₁.heap.objs.size h (kstB u [(Str.ofString "head", .int head t0), (Str.ofString "number", .int number t1), (Str.ofString "bits", .int bits t2)]) ∧ Led s₁.heap s₁.heap.objs.size D l I o io h ∧ 0 ≤ head ∧ head + 2 ^ bits.toNat ≤ 256 ∧ head % 2 ^ bits.toNat = 0) ?zzA3 ?zzB3
      case zzA3 =>
        have hp9 := pow_bits hb0 hb1
        refine wpC_of ?_
        k_steps
        clear hiB hzB hs0 hs1
        rename Fr _ _ _ _ => FF
        rename News _ _ _ _ => NN
        exact ⟨rfl, _, _, _, _, _, _, _, rfl, (fr_add (x := Str.ofString "head") (fr_add (x := Str.ofString "number") (fr_add (x := Str.ofString "bits") (fr_nil FF) rfl) rfl) rfl), ⟨_, _, _, _, _, _, NN, by assumption, by assumption, by assumption, by assumption⟩, (head_in (bits := 8) bits (by omega) hb1 (by decide) (by assumption) (by assumption)).1, (head_in (bits := 8) bits (by omega) hb1 (by decide) (by assumption) (by assumption)).2.1, (head_in (bits := 8) bits (by omega) hb1 (by decide) (by assumption) (by assumption)).2.2⟩
      case' zzB3 => clear FI NI hiB hzB hs0 hs1
      rintro s2 ⟨head, t0, t1, t2, u, h, tk, rfl, FI, ⟨n0, n1, st, t, vs, ns, NI, hiB, hzB, hs0, hs1⟩, hh0, hh1, hh2⟩
      -- S4
      refine wpC_next (Post := fun s' => ∃ (due : Array UInt8) (td t0 t1 t2 : Tok) (u : Str → Option Value) (h : Heap) (tk : Nat), s' = { s₁ with heap := h, toks := tk } ∧ Fr s₁.heap s₁.heap.objs.size h (kstB u [(Str.ofString "due", .bytes due td), (Str.ofString "head", .int head t0), (Str.ofString "number", .int number t1), (Str.ofString "bits", .int bits t2)]) ∧ Led s₁.heap s₁.heap.objs.size D l I o io h ∧ KBw.bInts due = written number bits.toNat head) ?zzA4 ?zzB4
      case zzA4 =>
        have hp9 := pow_bits hb0 hb1
        refine wpC_of ?_
        k_steps
        rename Fr _ _ _ _ => FF
        rename News _ _ _ _ => NN
        exact ⟨rfl, _, _, _, _, _, _, _, _, rfl, (fr_add (x := Str.ofString "due") (fr_add (x := Str.ofString "head") (fr_add (x := Str.ofString "number") (fr_add (x := Str.ofString "bits") (fr_nil FF) rfl) rfl) rfl) rfl), ⟨_, _, _, _, _, _, fun p hp => NN p (.tail _ hp), by assumption, by assumption, by assumption, by assumption⟩, by assumption⟩
      case' zzB4 => clear FI NI hiB hzB hs0 hs1
      rintro s2 ⟨due, td, t0, t1, t2, u, h, tk, rfl, FI, ⟨n0, n1, st, t, vs, ns, NI, hiB, hzB, hs0, hs1⟩, hdue⟩
      -- S5
      refine wpC_next (Post := fun s' => ∃ (ahead behind : Array UInt8) (ka kb : List Int) (ta tb td t0 t1 t2 : Tok) (u : Str → Option Value) (h : Heap) (tk : Nat), s' = { s₁ with heap := h, toks := tk } ∧ Fr s₁.heap s₁.heap.objs.size h (kstB u [(Str.ofString "ahead", .bytes ahead ta), (Str.ofString "behind", .bytes behind tb), (Str.ofString "due", .bytes due td), (Str.ofString "head", .int head t0), (Str.ofString "number", .int number t1), (Str.ofString "bits", .int bits t2)]) ∧ Led s₁.heap s₁.heap.objs.size D l I o io h ∧ KBw.bInts ahead = ka ∧ KBw.bInts behind = kb ∧ ka.length ≤ 2 ∧ kb.length ≤ 2) ?zzA5 ?zzB5
      case zzA5 =>
        refine wpC_of ?_
        k_steps
        clear hiB hzB hs0 hs1
        rename Fr _ _ _ _ => FF
        rename News _ _ _ _ => NN
        exact ⟨rfl, _, _, _, _, _, _, _, _, _, _, _, _, _, rfl, (fr_add (x := Str.ofString "ahead") (fr_add (x := Str.ofString "behind") (fr_add (x := Str.ofString "due") (fr_add (x := Str.ofString "head") (fr_add (x := Str.ofString "number") (fr_add (x := Str.ofString "bits") (fr_nil FF) rfl) rfl) rfl) rfl) rfl) rfl), ⟨_, _, _, _, _, _, fun p hp => NN p (.tail _ hp), by assumption, by assumption, by assumption, by assumption⟩, rfl, rfl, by rw [rep_len]; omega, by rw [rep_len]; omega⟩
      case' zzB5 => clear FI NI hiB hzB hs0 hs1
      rintro s2 ⟨ahead, behind, ka, kb, ta, tb, td, t0, t1, t2, u, h, tk, rfl, FI, ⟨n0, n1, st, t, vs, ns, NI, hiB, hzB, hs0, hs1⟩, hka, hkb, hla, hlb⟩
      -- S6
      refine wpC_next (Post := fun s' => ∃  (ta tb td t0 t1 t2 : Tok) (u : Str → Option Value) (h : Heap) (tk : Nat), s' = { s₁ with heap := h, toks := tk } ∧ Fr s₁.heap s₁.heap.objs.size h (kstB u [(Str.ofString "ahead", .bytes ahead ta), (Str.ofString "behind", .bytes behind tb), (Str.ofString "due", .bytes due td), (Str.ofString "head", .int head t0), (Str.ofString "number", .int number t1), (Str.ofString "bits", .int bits t2)]) ∧ Led s₁.heap s₁.heap.objs.size D l I o io h) ?zzA6 ?zzB6
      case zzA6 =>
        have hp9 := pow_bits hb0 hb1
        refine wpC_if_test (wpC_compare (wpC_callName ?_))
        k_steps
        refine wpC_callRef rfl rfl (Nat.le_of_ble_eq_true rfl) ?_
        k_steps
        rename Fr _ _ _ _ => FF
        rename News _ _ _ _ => NN
        refine ⟨fn_at (KX.keeps FF.keep) (by k_is), ?_⟩
        refine' prefix_use C0 K0 FF NN rfl rfl ?zzd ?zzu hn0 ?zza hb0 hb1 hh0 hh1 hh2 ?_
        case zzd => ktr_room
        case zzu => ktr_units
        case zza => omega
        intro b t9 h' tk' hb F9 N9
        have hbd := ints_inj (hb.trans hdue.symm)
        subst hbd
        clear FF NN hb
        refine wpC_of ?_
        k_steps
        show wpAny _ _ (eval _ _) _ _ _
        k_steps
        refine wpC_if_false (by simp) ?_
        refine wpC_execs_nil ?_
        rename Fr _ _ _ _ => FF
        rename News _ _ _ _ => NN
        exact ⟨rfl, _, _, _, _, _, _, _, _, _, rfl, (fr_add (x := Str.ofString "ahead") (fr_add (x := Str.ofString "behind") (fr_add (x := Str.ofString "due") (fr_add (x := Str.ofString "head") (fr_add (x := Str.ofString "number") (fr_add (x := Str.ofString "bits") (fr_nil FF) rfl) rfl) rfl) rfl) rfl) rfl), ⟨_, _, _, _, _, _, NN, by assumption, by assumption, by assumption, by assumption⟩⟩
      case' zzB6 => clear FI NI hiB hzB hs0 hs1
      rintro s2 ⟨ta, tb, td, t0, t1, t2, u, h, tk, rfl, FI, ⟨n0, n1, st, t, vs, ns, NI, hiB, hzB, hs0, hs1⟩⟩
      -- S7
      refine wpC_next (Post := fun s' => ∃  (ta tb td t0 t1 t2 : Tok) (u : Str → Option Value) (h : Heap) (tk : Nat), s' = { s₁ with heap := h, toks := tk } ∧ Fr s₁.heap s₁.heap.objs.size h (kstB u [(Str.ofString "ahead", .bytes ahead ta), (Str.ofString "behind", .bytes behind tb), (Str.ofString "due", .bytes due td), (Str.ofString "head", .int head t0), (Str.ofString "number", .int number t1), (Str.ofString "bits", .int bits t2)]) ∧ Led s₁.heap s₁.heap.objs.size D l I o io h) ?zzA7 ?zzB7
      case zzA7 =>
        have hwl := written_len (number := number) (k := bits.toNat) (head := head) hn0 (by omega)
        have hx1 := read_back (number := number) (head := head) (k := bits.toNat) ka kb hn0 hn1 hh2
        refine wpC_of ?_
        k_steps
        rename Fr _ _ _ _ => FF
        rename News _ _ _ _ => NN
        exact ⟨rfl, _, _, _, _, _, _, _, _, _, rfl, (fr_add (x := Str.ofString "ahead") (fr_add (x := Str.ofString "behind") (fr_add (x := Str.ofString "due") (fr_add (x := Str.ofString "head") (fr_add (x := Str.ofString "number") (fr_add (x := Str.ofString "bits") (fr_nil FF) rfl) rfl) rfl) rfl) rfl) rfl), ⟨_, _, _, _, _, _, fun p hp => NN p (.tail _ (.tail _ hp)), by assumption, by assumption, by assumption, by assumption⟩⟩
      case' zzB7 => clear FI NI hiB hzB hs0 hs1
      rintro s2 ⟨ta, tb, td, t0, t1, t2, u, h, tk, rfl, FI, ⟨n0, n1, st, t, vs, ns, NI, hiB, hzB, hs0, hs1⟩⟩
      -- S8
      refine wpC_next (Post := fun s' => ∃  (ta tb t0 t2 : Tok) (u : Str → Option Value) (h : Heap) (tk : Nat), s' = { s₁ with heap := h, toks := tk } ∧ Fr s₁.heap s₁.heap.objs.size h (kstB u [(Str.ofString "ahead", .bytes ahead ta), (Str.ofString "behind", .bytes behind tb), (Str.ofString "head", .int head t0), (Str.ofString "bits", .int bits t2)]) ∧ Led s₁.heap s₁.heap.objs.size D l I o io h) ?zzA8 ?zzB8
      case zzA8 =>
        have hwl := written_len (number := number) (k := bits.toNat) (head := head) hn0 (by omega)
        refine wpC_of ?_
        k_steps
        unfold Stop
        rename IsRange _ _ _ _ _ _ _ _ => hrg
        rename Fr _ _ _ _ => FF
        rename News _ _ _ _ => NN
        refine' kst_range (σ := Unit) (fun _ => [(D, listOf #[.ref l, .int st t] n0), (l, listOf vs.toArray n1), (s₁.heap.objs.size + 1, o), (I, io)]) (fun _ => []) (fun _ => True) [] (fun _ _ => True) () rfl hrg (range_small _ hwl.2).1 (range_small _ hwl.2).2 FF NN trivial (fun _ h => nomatch h) trivial ?zzturn ?zzdone
        case zzturn =>
          rintro c pre k t9 u9 h tk own hkk hlt9 hoff _ _ F9 N9
          simp only [List.cons_append, List.nil_append] at N9
          clear FF NN hrg
          have hx2 : getP (List.drop ((ka.length : Int)).toNat (ka ++ List.take (clipAt (written number bits.toNat head).length k) (written number bits.toNat head))) ka.length bits.toNat = .short := by
            rw [hkk, Int.zero_add, clipAt_nat, Nat.min_eq_left (Nat.le_of_lt hlt9)]
            exact read_short ka hn0 hn1 hh2 hlt9
          k_steps
          rename Fr _ _ _ _ => FF
          rename News _ _ _ _ => NN
          refine kst_end () FF NN (fun p hp => List.mem_append_left own hp) (fun p hp => .tail _ (.tail _ (.tail _ (.tail _ hp)))) rfl trivial (fun _ h => nomatch h) (fun z hz _ _ => by simp [kstB, hz]) trivial
        case zzdone =>
          rintro c u9 h tk _ _ F9 N9
          clear FF NN
          rename Fr _ _ _ _ => FF
          rename News _ _ _ _ => NN
          exact ⟨rfl, _, _, _, _, _, _, _, rfl, (fr_add (x := Str.ofString "ahead") (fr_add (x := Str.ofString "behind") (fr_add (x := Str.ofString "head") (fr_add (x := Str.ofString "bits") (fr_nil FF) rfl) rfl) rfl) rfl), ⟨_, _, _, _, _, _, NN, by assumption, by assumption, by assumption, by assumption⟩⟩
      case' zzB8 => clear FI NI hiB hzB hs0 hs1 hn0 hn1 hdue
      rintro s2 ⟨ta, tb, t0, t2, u, h, tk, rfl, FI, ⟨n0, n1, st, t, vs, ns, NI, hiB, hzB, hs0, hs1⟩⟩
      -- S9
      refine wpC_next (Post := fun s' => ∃ (great : Array UInt8) (gn : Int) (tg ta tb t0 t2 : Tok) (u : Str → Option Value) (h : Heap) (tk : Nat), s' = { s₁ with heap := h, toks := tk } ∧ Fr s₁.heap s₁.heap.objs.size h (kstB u [(Str.ofString "great", .bytes great tg), (Str.ofString "ahead", .bytes ahead ta), (Str.ofString "behind", .bytes behind tb), (Str.ofString "head", .int head t0), (Str.ofString "bits", .int bits t2)]) ∧ Led s₁.heap s₁.heap.objs.size D l I o io h ∧ KBw.bInts great = written gn bits.toNat head ∧ 4611686018427387904 ≤ gn ∧ gn < 2 ^ 63) ?zzA9 ?zzB9
      case zzA9 =>
        have hp9 := pow_bits hb0 hb1
        have e62 : (2 : Int) ^ (62 : Int).toNat = 4611686018427387904 := by decide
        refine wpC_of ?_
        k_steps
        clear hiB hzB hs0 hs1
        rename Fr _ _ _ _ => FF
        rename News _ _ _ _ => NN
        exact ⟨rfl, _, _, _, _, _, _, _, _, _, _, rfl, (fr_add (x := Str.ofString "great") (fr_add (x := Str.ofString "ahead") (fr_add (x := Str.ofString "behind") (fr_add (x := Str.ofString "head") (fr_add (x := Str.ofString "bits") (fr_nil FF) rfl) rfl) rfl) rfl) rfl), ⟨_, _, _, _, _, _, fun p hp => NN p (.tail _ hp), by assumption, by assumption, by assumption, by assumption⟩, (by assumption : KBw.bInts _ = written _ bits.toNat head), by omega, by omega⟩
      case' zzB9 => clear FI NI hiB hzB hs0 hs1
      rintro s2 ⟨great, gn, tg, ta, tb, t0, t2, u, h, tk, rfl, FI, ⟨n0, n1, st, t, vs, ns, NI, hiB, hzB, hs0, hs1⟩, hgr, hg0, hg1⟩
      -- S10
      refine wpC_next (Post := fun s' => ∃  (ta tb t0 t2 : Tok) (u : Str → Option Value) (h : Heap) (tk : Nat), s' = { s₁ with heap := h, toks := tk } ∧ Fr s₁.heap s₁.heap.objs.size h (kstB u [(Str.ofString "ahead", .bytes ahead ta), (Str.ofString "behind", .bytes behind tb), (Str.ofString "head", .int head t0), (Str.ofString "bits", .int bits t2)]) ∧ Led s₁.heap s₁.heap.objs.size D l I o io h) ?zzA10 ?zzB10
      case zzA10 =>
        have hp9 := pow_bits hb0 hb1
        have hwl := written_len (number := gn) (k := bits.toNat) (head := head) (by omega) hg1
        have hx1 : getP (List.drop (0 : Int).toNat (written gn bits.toNat head)) 0 bits.toNat = .big := getP_great (by omega) hg0 hh2
        have hx2 : getP (List.drop (0 : Int).toNat ([head + 2 ^ bits.toNat - 1] ++ List.map (fun c => ((UInt8.toNat c : Nat) : Int)) [128, 128, 128, 128, 128, 128, 128, 128, 128, 128, 128, 128] ++ List.map (fun c => ((UInt8.toNat c : Nat) : Int)) [0])) 0 bits.toNat = .big := getP_long (head := head) (by omega) hh2
        refine wpC_of ?_
        k_steps
        rename Fr _ _ _ _ => FF
        rename News _ _ _ _ => NN
        exact ⟨rfl, _, _, _, _, _, _, _, rfl, (fr_add (x := Str.ofString "ahead") (fr_add (x := Str.ofString "behind") (fr_add (x := Str.ofString "head") (fr_add (x := Str.ofString "bits") (fr_nil FF) rfl) rfl) rfl) rfl), ⟨_, _, _, _, _, _, fun p hp => NN p (.tail _ hp), by assumption, by assumption, by assumption, by assumption⟩⟩
      case' zzB10 => clear FI NI hiB hzB hs0 hs1 hgr hg0 hg1 hh0 hh1 hh2 hb0 hb1
      rintro s2 ⟨ta, tb, t0, t2, u, h, tk, rfl, FI, ⟨n0, n1, st, t, vs, ns, NI, hiB, hzB, hs0, hs1⟩⟩
      -- S11
      refine wpC_next (Post := fun s' => ∃ (small : Int) (text : Array UInt8) (kt : List Int) (t5 t6 ta tb : Tok) (u : Str → Option Value) (h : Heap) (tk : Nat), s' = { s₁ with heap := h, toks := tk } ∧ Fr s₁.heap s₁.heap.objs.size h (kstB u [(Str.ofString "small", .int small t5), (Str.ofString "text", .bytes text t6), (Str.ofString "ahead", .bytes ahead ta), (Str.ofString "behind", .bytes behind tb)]) ∧ Led s₁.heap s₁.heap.objs.size D l I o io h ∧ KBw.bInts text = kt ∧ kt.length ≤ 8 ∧ 1 ≤ small ∧ small ≤ 7) ?zzA11 ?zzB11
      case zzA11 =>
        refine wpC_of ?_
        k_steps
        unfold Stop
        rename IsRange _ _ _ _ _ _ _ _ => hrg
        rename Fr _ _ _ _ => FF
        rename News _ _ _ _ => NN
        clear hiB hzB hs0 hs1 NI
        refine' takes_comp (fun news => ∃ (n0 n1 : Nat) (st : Int) (t : Tok) (vs : List Value) (ns : List Int), news = [(D, listOf #[.ref l, .int st t] n0), (l, listOf vs.toArray n1), (s₁.heap.objs.size + 1, o), (I, io)] ∧ IntsAre vs ns ∧ ns.length < 100 ∧ 0 ≤ st ∧ st < 2147483647) rfl FF NN hrg (by assumption) (by assumption) ⟨_, _, _, _, _, _, rfl, by assumption, by assumption, by assumption, by assumption⟩ ?zzturn ?zzfin
        case zzturn =>
          rintro g v I' oI C' oC D' m₂ ys h tk E' news ⟨n0, n1, st, t, vs, ns, rfl, hiB, hzB, hs0, hs1⟩ hC hx F9 N9 off ne
          clear FF NN
          have off2 := off
          simp only [LCg.Off3, and_true] at off2
          obtain ⟨⟨oa1, oa2, oa3⟩, ⟨ob1, ob2, ob3⟩, ⟨oc1, oc2, oc3⟩, od1, od2, od3⟩ := off2
          obtain ⟨ne1, ne2, ne3⟩ := ne
          k_steps
          clear hiB hzB hs0 hs1
          rename Fr _ _ _ _ => FF
          rename News _ _ _ _ => NN
          exact ⟨⟨_, _, _, _, _, _, rfl, by assumption, by assumption, by assumption, by assumption⟩, _, _, rfl, by assumption, by assumption⟩
        case zzfin =>
          rintro g ys ks news hi9 hr9 hl9 ⟨n0, n1, st, t, vs, ns, rfl, hiB, hzB, hs0, hs1⟩
          clear FF NN
          intro D9 h9 tk9 F9 N9 off9
          k_steps
          rename Fr _ _ _ _ => FF
          rename News _ _ _ _ => NN
          exact ⟨rfl, _, _, ks, _, _, _, _, _, _, _, rfl, (fr_add (x := Str.ofString "small") (fr_add (x := Str.ofString "text") (fr_add (x := Str.ofString "ahead") (fr_add (x := Str.ofString "behind") (fr_nil FF) rfl) rfl) rfl) rfl), ⟨_, _, _, _, _, _, fun p hp => NN p (.tail _ (.tail _ hp)), by assumption, by assumption, by assumption, by assumption⟩, KBa.ints_make hr9, hl9, by omega, by omega⟩
      case' zzB11 => clear FI NI hiB hzB hs0 hs1
      rintro s2 ⟨small, text, kt, t5, t6, ta, tb, u, h, tk, rfl, FI, ⟨n0, n1, st, t, vs, ns, NI, hiB, hzB, hs0, hs1⟩, hkt, hlt9, hm0, hm1⟩
      -- S12
      refine wpC_next (Post := fun s' => ∃ (top : Int) (t7 t5 t6 ta tb : Tok) (u : Str → Option Value) (h : Heap) (tk : Nat), s' = { s₁ with heap := h, toks := tk } ∧ Fr s₁.heap s₁.heap.objs.size h (kstB u [(Str.ofString "head", .int top t7), (Str.ofString "small", .int small t5), (Str.ofString "text", .bytes text t6), (Str.ofString "ahead", .bytes ahead ta), (Str.ofString "behind", .bytes behind tb)]) ∧ Led s₁.heap s₁.heap.objs.size D l I o io h ∧ 0 ≤ top ∧ top + 2 ^ (small + 1).toNat ≤ 256 ∧ top % 2 ^ (small + 1).toNat = 0) ?zzA12 ?zzB12
      case zzA12 =>
        have hp7 := pow_bits (bits := small) (by omega) (by omega)
        have hps := pow_next (k := small) (by omega)
        refine wpC_of ?_
        k_steps
        clear hiB hzB hs0 hs1
        rename Fr _ _ _ _ => FF
        rename News _ _ _ _ => NN
        exact ⟨rfl, _, _, _, _, _, _, _, _, _, rfl, (fr_add (x := Str.ofString "head") (fr_add (x := Str.ofString "small") (fr_add (x := Str.ofString "text") (fr_add (x := Str.ofString "ahead") (fr_add (x := Str.ofString "behind") (fr_nil FF) rfl) rfl) rfl) rfl) rfl), ⟨_, _, _, _, _, _, NN, by assumption, by assumption, by assumption, by assumption⟩, (head_in (bits := 8) (small + 1) (by omega) (by omega) (by decide) (by assumption) (by first | assumption | (rw [show (8 : Int) - (small + 1) = 7 - small by omega]; assumption))).1, (head_in (bits := 8) (small + 1) (by omega) (by omega) (by decide) (by assumption) (by first | assumption | (rw [show (8 : Int) - (small + 1) = 7 - small by omega]; assumption))).2.1, (head_in (bits := 8) (small + 1) (by omega) (by omega) (by decide) (by assumption) (by first | assumption | (rw [show (8 : Int) - (small + 1) = 7 - small by omega]; assumption))).2.2⟩
      case' zzB12 => clear FI NI hiB hzB hs0 hs1
      rintro s2 ⟨top, t7, t5, t6, ta, tb, u, h, tk, rfl, FI, ⟨n0, n1, st, t, vs, ns, NI, hiB, hzB, hs0, hs1⟩, ht0, ht1, ht2⟩
      -- S13
      refine wpC_next (Post := fun s' => ∃ (due : Array UInt8) (td t7 t5 t6 ta tb : Tok) (u : Str → Option Value) (h : Heap) (tk : Nat), s' = { s₁ with heap := h, toks := tk } ∧ Fr s₁.heap s₁.heap.objs.size h (kstB u [(Str.ofString "due", .bytes due td), (Str.ofString "head", .int top t7), (Str.ofString "small", .int small t5), (Str.ofString "text", .bytes text t6), (Str.ofString "ahead", .bytes ahead ta), (Str.ofString "behind", .bytes behind tb)]) ∧ Led s₁.heap s₁.heap.objs.size D l I o io h ∧ KBw.bInts due = written kt.length small.toNat top ++ kt) ?zzA13 ?zzB13
      case zzA13 =>
        have hp7 := pow_bits (bits := small) (by omega) (by omega)
        have hps := pow_next (k := small) (by omega)
        have hwl := written_len (number := (kt.length : Int)) (k := small.toNat) (head := top) (by omega) (by omega)
        refine wpC_of ?_
        k_steps
        rename Fr _ _ _ _ => FF
        rename News _ _ _ _ => NN
        exact ⟨rfl, _, _, _, _, _, _, _, _, _, _, rfl, (fr_add (x := Str.ofString "due") (fr_add (x := Str.ofString "head") (fr_add (x := Str.ofString "small") (fr_add (x := Str.ofString "text") (fr_add (x := Str.ofString "ahead") (fr_add (x := Str.ofString "behind") (fr_nil FF) rfl) rfl) rfl) rfl) rfl) rfl), ⟨_, _, _, _, _, _, fun p hp => NN p (.tail _ hp), by assumption, by assumption, by assumption, by assumption⟩, by assumption⟩
      case' zzB13 => clear FI NI hiB hzB hs0 hs1
      rintro s2 ⟨due, td, t7, t5, t6, ta, tb, u, h, tk, rfl, FI, ⟨n0, n1, st, t, vs, ns, NI, hiB, hzB, hs0, hs1⟩, hdue⟩
      -- S14
      refine wpC_next (Post := fun s' => ∃  (td t7 t5 t6 ta tb : Tok) (u : Str → Option Value) (h : Heap) (tk : Nat), s' = { s₁ with heap := h, toks := tk } ∧ Fr s₁.heap s₁.heap.objs.size h (kstB u [(Str.ofString "due", .bytes due td), (Str.ofString "head", .int top t7), (Str.ofString "small", .int small t5), (Str.ofString "text", .bytes text t6), (Str.ofString "ahead", .bytes ahead ta), (Str.ofString "behind", .bytes behind tb)]) ∧ Led s₁.heap s₁.heap.objs.size D l I o io h) ?zzA14 ?zzB14
      case zzA14 =>
        have hp7 := pow_bits (bits := small) (by omega) (by omega)
        have hps := pow_next (k := small) (by omega)
        
        have hwl := written_len (number := (kt.length : Int)) (k := small.toNat) (head := top) (by omega) (by omega)
        have hlow := low_mod (head := top) (k := small.toNat) (by rw [← pow_suc (k := small) (by omega)]; exact ht2)
        refine wpC_if_test (wpC_or (wpC_compare (wpC_callName ?_)))
        k_steps
        refine wpC_callRef rfl rfl (Nat.le_of_ble_eq_true rfl) ?_
        k_steps
        rename Fr _ _ _ _ => FF
        rename News _ _ _ _ => NN
        refine ⟨fn_at (KX.keeps FF.keep) (by k_is), ?_⟩
        refine' ptext_use C0 K0 FF NN rfl rfl ?zzd ?zzu hkt ?zza ?zzb ?zzc ht0 ?zze hlow ?_
        case zzd => ktr_room
        case zzu => ktr_units
        case zza => omega
        case zzb => omega
        case zzc => omega
        case zze => omega
        intro b t9 h' tk' hb F9 N9
        have hbd := ints_inj (hb.trans hdue.symm)
        subst hbd
        clear FF NN hb
        refine wpC_of ?_
        k_steps
        show wpAny _ _ (eval _ _) _ _ _
        k_steps
        refine wpC_if_false (by simp) ?_
        have hx1 := text_back (head := top) (k := small.toNat) ka kt kb (by omega) (by rw [← pow_suc (k := small) (by omega)]; exact ht2)
        refine wpC_or_last (wpC_of ?_)
        k_steps
        refine wpC_if_false (by simp) ?_
        refine wpC_execs_nil ?_
        rename Fr _ _ _ _ => FF
        rename News _ _ _ _ => NN
        exact ⟨rfl, _, _, _, _, _, _, _, _, _, rfl, (fr_add (x := Str.ofString "due") (fr_add (x := Str.ofString "head") (fr_add (x := Str.ofString "small") (fr_add (x := Str.ofString "text") (fr_add (x := Str.ofString "ahead") (fr_add (x := Str.ofString "behind") (fr_nil FF) rfl) rfl) rfl) rfl) rfl) rfl), ⟨_, _, _, _, _, _, fun p hp => NN p (.tail _ (.tail _ hp)), by assumption, by assumption, by assumption, by assumption⟩⟩
      case' zzB14 => clear FI NI hiB hzB hs0 hs1 hka hkb hla hlb
      rintro s2 ⟨td, t7, t5, t6, ta, tb, u, h, tk, rfl, FI, ⟨n0, n1, st, t, vs, ns, NI, hiB, hzB, hs0, hs1⟩⟩
      -- S15
      refine wpC_next (Post := fun s' => ∃ (u : Str → Option Value) (h : Heap) (tk : Nat), s' = { s₁ with heap := h, toks := tk } ∧ Fr s₁.heap s₁.heap.objs.size h (kstB u []) ∧ Led s₁.heap s₁.heap.objs.size D l I o io h) ?zzA15 ?zzB15
      case zzA15 =>
        have hp7 := pow_bits (bits := small) (by omega) (by omega)
        have hps := pow_next (k := small) (by omega)
        have hwl := written_len (number := (kt.length : Int)) (k := small.toNat) (head := top) (by omega) (by omega)
        have hx1 := text_cut (head := top) (k := small.toNat) kt (by omega) (by omega) (by rw [← pow_suc (k := small) (by omega)]; exact ht2)
        have hx3 := first_low (head := top) (k := small.toNat) kt (by rw [← pow_suc (k := small) (by omega)]; exact ht1)
        have hx4 := text_huff (head := top) (k := small.toNat) kt (List.take ((written (kt.length : Int) small.toNat top ++ kt).length - clipAt (written (kt.length : Int) small.toNat top ++ kt).length 1) (List.drop (clipAt (written (kt.length : Int) small.toNat top ++ kt).length 1) (written (kt.length : Int) small.toNat top ++ kt))) (by rw [← pow_suc (k := small) (by omega)]; exact ht2)
        refine wpC_of ?_
        k_steps
        rename Fr _ _ _ _ => FF
        rename News _ _ _ _ => NN
        exact ⟨rfl, _, _, _, rfl, (fr_nil FF), ⟨_, _, _, _, _, _, fun p hp => NN p (.tail _ hp), by assumption, by assumption, by assumption, by assumption⟩⟩
      case' zzB15 => clear FI NI hiB hzB hs0 hs1
      rintro s2 ⟨u, h, tk, rfl, FI, ⟨n0, n1, st, t, vs, ns, NI, hiB, hzB, hs0, hs1⟩⟩
      refine wpC_execs_nil ⟨rfl, h, tk, _, [(D, listOf #[.ref l, .int st t] n0), (l, listOf vs.toArray n1), (s₁.heap.objs.size + 1, o)], rfl, FI, NI, ?_, ⟨_, _, _, _, _, _, _, rfl, hiB, hzB, hs0, hs1, hcl⟩⟩
      simp only [List.forall_mem_cons, List.not_mem_nil, false_implies, implies_true, and_true]
      exact ⟨hDI, hlI, hcI⟩)
end Mine
end
open PySem PySem.W PyProof.Rows
theorem PySem.Challenge.cw_no0050_01_holds : PySem.Challenge.rw_no0050_01.Holds := by
  exact Mine.law_holds
