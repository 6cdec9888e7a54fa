import PyProof.Rows.All
import Wide.All
import OpenK.AllK
import Wide.FinOn
import PySem.Challenge.RW_nz0362_01

section
open PySem PySem.W PySem.Calls PyProof.Rows
open Sem (wp)
set_option Elab.async false
namespace Mine

/-! ## The logic: like the kit's wpAny, but only over stacks that hold no code which could lend a bytearray out -/
def badIds : List String := ["bytearray.__contains__", "bytearray.__mod__", "bytearray.__rmod__", "_struct.pack_into.held", "bytearray.find.held"] ++ Builtin.Bytes.decodersThatHold
def okCode : Code → Bool
  | .builtin id _ => !badIds.contains id
  | _ => true
def Cln (Γ : Ctx) : Prop := okCode Γ.code = true ∧ ∀ x ∈ Γ.below, okCode x.1 = true
structure wpP {α : Type} (M : Model) (A : Around) (t : Sem α) (Q : α → Shared → Prop) (E : Value → Shared → Prop) (s : Shared) : Prop where
  go : ∀ Γ p, Γ.In A → Cln Γ → wp M Γ t (fun a _ s' => Q a s') (fun e _ s' => E e s') p s
structure codeP (M : Model) (A : Around) (c : Code) (R : Result → Shared → Prop) (s : Shared) : Prop where
  go : ∀ Γ p, Γ.code = c → Γ.Below A → (∀ x ∈ Γ.below, okCode x.1 = true) → wpCode M Γ R p s

section
variable {α β : Type} {M : Model} {A : Around} {E : Value → Shared → Prop} {s : Shared}

theorem up {t : Sem α} {Q : α → Shared → Prop} (h : wpAny M A t Q E s) : wpP M A t Q E s := ⟨fun Γ p hΓ _ => h Γ p hΓ⟩
theorem upC {c : Code} {R : Result → Shared → Prop} (h : codeAny M A c R s) : codeP M A c R s := ⟨fun Γ p hc hΓ _ => h Γ p hc hΓ⟩
theorem pureP {a : α} {Q : α → Shared → Prop} (h : Q a s) : wpP M A (pure a) Q E s := ⟨fun _ _ _ _ => h⟩
theorem monoP {t : Sem α} {Q Q' : α → Shared → Prop} {E' : Value → Shared → Prop} (h : wpP M A t Q E s)
    (hQ : ∀ a s, Q a s → Q' a s) (hE : ∀ e s, E e s → E' e s) : wpP M A t Q' E' s :=
  .mk fun Γ p hΓ hc => Sem.wp_mono M Γ t (fun a _ s => hQ a s) (fun e _ s => hE e s) p s (h.go Γ p hΓ hc)
theorem bindP {m : Sem α} {f : α → Sem β} {Q : β → Shared → Prop} (h : wpP M A m (fun a s' => wpP M A (f a) Q E s') E s) :
    wpP M A (m >>= f) Q E s := .mk fun Γ p hΓ hc => by
  rw [Sem.wp_bind']
  exact Sem.wp_mono M Γ m (fun a p' s' h' => h'.go Γ p' hΓ hc) (fun _ _ _ h' => h') p s (h.go Γ p hΓ hc)
theorem mapP {m : Sem α} {f : α → β} {Q : β → Shared → Prop} (h : wpP M A m (fun a s' => Q (f a) s') E s) :
    wpP M A (f <$> m) Q E s := .mk fun Γ p hΓ hc => by rw [Sem.wp_map]; exact h.go Γ p hΓ hc
theorem tryP {m : Sem α} {k : Value → Sem α} {Q : α → Shared → Prop} (h : wpP M A m Q (fun e s' => wpP M A (k e) Q E s') s) :
    wpP M A (tryCatch m k) Q E s := .mk fun Γ p hΓ hc => by
  rw [Sem.wp_tryCatch']
  exact Sem.wp_mono M Γ m (fun _ _ _ h' => h') (fun e p' s' h' => h'.go Γ p' hΓ hc) p s (h.go Γ p hΓ hc)
theorem onRaiseP {m : Sem α} {k : Value → Sem Unit} {Q : α → Shared → Prop}
    (h : wpP M A m Q (fun e s' => wpP M A (k e) (fun _ s'' => E e s'') E s') s) : wpP M A (m.onRaise k) Q E s := .mk fun Γ p hΓ hc => by
  rw [Sem.wp_onRaise]
  exact Sem.wp_mono M Γ m (fun _ _ _ h' => h') (fun e p' s' h' => h'.go Γ p' hΓ hc) p s (h.go Γ p hΓ hc)
theorem attemptP {m : Sem α} {Q : Except Value α → Shared → Prop} (h : wpP M A m (fun a => Q (.ok a)) (fun e => Q (.error e)) s) :
    wpP M A m.attempt Q E s := .mk fun Γ p hΓ hc => by rw [Sem.wp_attempt]; exact h.go Γ p hΓ hc
theorem holdP {vs : List Value} {m : Sem α} {Q : α → Shared → Prop} (h : wpP M A m Q E s) : wpP M A (holding vs m) Q E s :=
  .mk fun Γ p hΓ hc => by rw [Sem.wp_holding]; exact h.go Γ p hΓ hc
theorem keepP {vs : List Value} {m : Sem α} {Q : α → Shared → Prop} (h : wpP M A m Q E s) : wpP M A (m.keep vs) Q E s :=
  .mk fun Γ p hΓ hc => by rw [Sem.wp_keep]; exact h.go Γ p hΓ hc
theorem atP {pos : Pos} {Q : Unit → Shared → Prop} (h : Q () s) : wpP M A (standAt pos) Q E s := ⟨fun _ _ _ _ => h⟩
theorem ruleP {tag : String} {Q : Unit → Shared → Prop} (h : Q () s) : wpP M A (rule tag) Q E s := ⟨fun _ _ _ _ => h⟩
theorem pointP {Q : Unit → Shared → Prop} (h : Q () s) : wpP M A point Q E s := ⟨fun _ _ _ _ => h⟩
theorem operateP {vs : List Value} {m : Sem Value} {Q : Value → Shared → Prop} (h : wpP M A m Q E s) : wpP M A (operate vs m) Q E s :=
  .mk fun Γ p hΓ hc => by rw [Sem.wp_operate]; exact h.go Γ p hΓ hc
theorem releaseP {vs keep : List Value} {Q : Unit → Shared → Prop} (h : Q () s) : wpP M A (release vs keep) Q E s :=
  .mk fun Γ p _ _ => by rw [Sem.wp_release]; exact h

theorem enterP {Γ : Ctx} {c : Code} {h : Option Value} {p : Pos} (hc : Cln Γ) : ∀ x ∈ (Γ.enter c h p).below, okCode x.1 = true := by
  intro x hx
  rcases List.mem_cons.mp hx with rfl | hx
  · exact hc.1
  · exact hc.2 x hx
theorem runP {c : Code} {h : Option Value} {Q : Flow → Shared → Prop}
    (hc : codeP M (A.mark h) c (fun r s' => match r with | .ok f => Q f s' | .error e => E e s') s) (hnb : h ≠ some byPass := by intro x; cases x) :
    wpP M A (run c h) Q E s :=
  .mk fun Γ p hΓ hk => by rw [Sem.wp_run]; exact hc.go _ p rfl (hΓ.enter c h p hnb) (enterP hk)
theorem runValueP {c : Code} {Q : Value → Shared → Prop}
    (hc : codeP M A c (fun r s' => match r with | .ok (.ret v) => Q v s' | .ok _ => False | .error e => E e s') s) :
    wpP M A (runValue c) Q E s := .mk fun Γ p hΓ hk => by rw [Sem.wp_runValue]; exact hc.go _ p rfl (hΓ.enter c none p (by intro x; cases x)) (enterP hk)
theorem callP {f : Value} {pos : List Value} {kw : List (Str × Value)} {Q : Value → Shared → Prop}
    (hc : codeP M A (.call f ⟨pos, kw⟩) (fun r s' => match r with | .ok (.ret v) => Q v s' | .ok _ => False | .error e => E e s') s) :
    wpP M A (call f pos kw) Q E s := runValueP hc
theorem monoC {c : Code} {R R' : Result → Shared → Prop} (h : codeP M A c R s) (hR : ∀ r s, R r s → R' r s) : codeP M A c R' s :=
  .mk fun Γ p hc hΓ hk => wpCode_mono hR (h.go Γ p hc hΓ hk)
theorem treeC {c : Code} {R : Result → Shared → Prop} (ok : okCode c = true)
    (h : wpP M (A.under c) (M.den c) (fun fin s' => match fin with | .done f => R (.ok f) s' | .again c' => c'.quiet = true ∧ codeP M A c' R s')
      (fun e s' => R (.error e) s') s) : codeP M A c R s := .mk fun Γ p hc hΓ hk => by
  rw [wpCode_iff_wp, hc]
  refine Sem.wp_mono M Γ _ (fun fin p' s' h' => ?_) (fun _ _ _ h' => h') p s (h.go Γ p (hc ▸ hΓ.in) ⟨hc ▸ ok, hk⟩)
  cases fin with
  | done f => exact h'
  | again c' => exact ⟨h'.1, h'.2.go (Γ.goto c') p' rfl (hΓ.goto c') hk⟩
theorem loopC {c : Code} {R : Result → Shared → Prop} (hq : c.quiet = true) (ok : okCode c = true) (I : Nat → Shared → Prop)
    (turn : ∀ n s, I n s → wpP M (A.under c) (M.den c)
      (fun fin s' => match fin with | .done f => R (.ok f) s' | .again c' => c' = c ∧ ∃ m, m < n ∧ I m s') (fun e s' => R (.error e) s') s)
    (n : Nat) (h : I n s) : codeP M A c R s := by
  induction n using Nat.strongRecOn generalizing s with
  | ind n ih =>
    refine treeC ok (monoP (turn n s h) (fun fin s' hf => ?_) fun _ _ h' => h')
    cases fin with
    | done f => exact hf
    | again c' => obtain ⟨rfl, m, hm, hI⟩ := hf; exact ⟨hq, ih m hm hI⟩

theorem stackP {Q : List (Code × Pos) → Shared → Prop} (h : ∀ st : List (Code × Pos), (∀ x ∈ st, okCode x.1 = true) → Q st s) : wpP M A stack Q E s := .mk fun Γ p _ hk => by
  show Q ((Γ.code, p) :: Γ.below) s
  refine h _ fun x hx => ?_
  rcases List.mem_cons.mp hx with rfl | hx
  · exact hk.1
  · exact hk.2 x hx
end

section
variable {M : Model} {A : Around} {E : Value → Shared → Prop} {s : Shared}
open Builtin.Bytes
theorem exportedP {self : Value} {Q : Bool → Shared → Prop} (h : Q false s) : wpP M A (exported self) Q E s := by
  unfold exported
  have key : ∀ b, b = false → Q b s := fun b e => e ▸ h
  refine bindP (stackP fun st hst => pureP (key _ (List.any_eq_false.mpr fun x hx => ?_)))
  have ok := hst x hx
  clear hst hx key h
  split
  case h_6 =>
    rw [Bool.not_eq_true, Bool.and_eq_false_iff]; right
    simp only [okCode, badIds, Bool.not_eq_true'] at ok
    rw [List.contains_eq_any_beq] at ok ⊢
    rw [List.any_append, Bool.or_eq_false_iff] at ok
    exact ok.2
  case h_7 => decide
  all_goals (exfalso; simp only [okCode, badIds] at ok; revert ok; decide)
end
end Mine

end
section
open PySem PySem.W PySem.Calls PyProof.Rows
open Sem (wp)
set_option Elab.async false
namespace Mine

/-! ## The head: a walk over clean stacks is enough, for the caller's own stack is clean -/
def guarded {α : Type} (t : Sem α) (a : α) : Sem α := .stack fun st => if st.all (fun x => okCode x.1) = true then t else .pure a

theorem guarded_any {α : Type} {M : Model} {A : Around} {E : Value → Shared → Prop} {s : Shared} {t : Sem α} {a : α} {Q : α → Shared → Prop} (h : wpP M A t Q E s) (hd : Q a s) : wpAny M A (guarded t a) Q E s := fun Γ p hΓ => by
  show wp M Γ (if ((Γ.code, p) :: Γ.below).all (fun x => okCode x.1) = true then t else .pure a) _ _ p s
  split
  · rename_i e
    rw [List.all_cons, Bool.and_eq_true, List.all_eq_true] at e
    exact h.go Γ p hΓ ⟨e.1, e.2⟩
  · exact hd
theorem any_guarded {α : Type} {M : Model} {A : Around} {E : Value → Shared → Prop} {s : Shared} {t : Sem α} {a : α} {Q : α → Shared → Prop} (h : wpAny M A (guarded t a) Q E s) : wpP M A t Q E s := .mk fun Γ p hΓ hc => by
  have z := h Γ p hΓ
  have e : ((Γ.code, p) :: Γ.below).all (fun x => okCode x.1) = true := by rw [List.all_cons, Bool.and_eq_true, List.all_eq_true]; exact ⟨hc.1, hc.2⟩
  have z' : wp M Γ (if ((Γ.code, p) :: Γ.below).all (fun x => okCode x.1) = true then t else .pure a) (fun a _ s' => Q a s') (fun e _ s' => E e s') p s := z
  rwa [if_pos e] at z'
theorem guarded_dirty {α : Type} {M : Model} {A : Around} {E : Value → Shared → Prop} {s : Shared} {t : Sem α} {a : α} {Q : α → Shared → Prop} (h : wpAny M A (guarded t a) Q E s)
    {Γ : Ctx} {p : Pos} (hΓ : Γ.In A) (e : ¬ ((Γ.code, p) :: Γ.below).all (fun x => okCode x.1) = true) : Q a s := by
  have z := h Γ p hΓ
  have z' : wp M Γ (if ((Γ.code, p) :: Γ.below).all (fun x => okCode x.1) = true then t else .pure a) (fun a _ s' => Q a s') (fun e _ s' => E e s') p s := z
  rw [if_neg e] at z'
  exact z'

theorem callFrom_unguarded {c : ClaimW} {tree : List Value → Sem Fin} {d : Fin} {w : World} {free : Addr → Prop} {gens : Prop} {kept : Heap → Prop} {s : Shared} (hz : s.asleep)
    (H : c.CallFrom (fun vs => ⟨guarded (tree vs) d, .builtin "claim.caller" {}, default, []⟩) w free gens kept s) :
    c.CallFrom (fun vs => ⟨tree vs, .builtin "claim.caller" {}, default, []⟩) w free gens kept s := by
  intro args hpre hlay ord hord
  obtain ⟨vs, s₁, hl, n, o, s', hr, rest⟩ := H args hpre hlay ord hord
  have z₁ : s₁.asleep := Shared.asleep_of_life (layAllW_rest _ _ _ hl).2.2.2 hz
  cases n with
  | zero => simp [schedN] at hr
  | succ n =>
    refine ⟨vs, s₁, hl, n, o, s', ?_, rest⟩
    have e := (sstep_single (denote table) c.prog w s₁ ⟨guarded (tree vs) d, .builtin "claim.caller" {}, default, []⟩ rfl z₁).resolve_right (by intro x; cases x)
    simp only [schedN, e] at hr
    have ok : ([((Code.builtin "claim.caller" {}, default) : Code × Pos)]).all (fun x => okCode x.1) = true := by decide +kernel
    have st : step (denote table) c.prog w s₁ ⟨guarded (tree vs) d, .builtin "claim.caller" {}, default, []⟩ = .go s₁ ⟨tree vs, .builtin "claim.caller" {}, default, []⟩ := by
      show Step.go s₁ ⟨if ([((Code.builtin "claim.caller" {}, default) : Code × Pos)]).all (fun x => okCode x.1) = true then tree vs else .pure d, _, _, _⟩ = _
      rw [if_pos ok]
    rw [st] at hr
    exact hr

abbrev WalkP (q : Program) (loose : List Str) (XP : (Str → Option Value) → Heap → Prop) (YP : World → Heap → Prop) (r : RowW) (d : DefRec) (kwd : List (Str × Expr)) : Prop :=
  ∀ (w : World) (s₀ s₁ : Shared) (mg mb : Str → Option Value), Ground q loose r.records XP w s₀ mg mb s₁.heap → YP w s₁.heap → ∀ (a : Addr) (o : Obj) (pm cd doc dV kV : Value), s₁.heap.get? a = some o →
    o.data = .func { docDef d.name d.params d.body d.scope pm cd doc with defaults := dV, kwdefaults := kV } → s₁.heap.CodeRec cd d.name → Dflts mg s₁.heap d.params kwd dV kV → mg d.name = some (.ref a) → s₁.gens = #[] →
    ∀ (args : List WData) (vals : List Value) (as : List Addr), r.claim.pre args = true → WData.layableAll args = true → ReadsAllW r.records (classAt s₀.heap) s₁.heap vals args as → WellAll w.params s₁.heap vals args → (∀ a ∈ as, (a == sysModules) = false) →
      wpP (model r.prog w) callerA (PySem.call (.ref a) vals) (fun v s' => GoodWG r.claim (classAt s₀.heap) (ExcName.means s₀.heap) args s₁ (.ok (.ret v)) s')
        (fun e s' => GoodWG r.claim (classAt s₀.heap) (ExcName.means s₀.heap) args s₁ (.error e) s') s₁ ∧
      GoodWG r.claim (classAt s₀.heap) (ExcName.means s₀.heap) args s₁ (.ok (.ret (.bool true))) s₁

/-- the kit's head line asks for the theorem of this name: inside this namespace it finds this one, whose walk is over clean stacks -/
theorem PySem.W.holds_open {r : OpenRow} {q : Program} {loose : List Str} {Xt : Shared → Bool} {XP : (Str → Option Value) → Heap → Prop} {α : Type} {Yf : Shared → α} {Ya : World → α} {YP : World → Heap → Prop} {d : DefRec} {kwd : List (Str × Expr)} {N : Nat}
    (left : LeftO r.prog q loose Xt Yf Ya N) (hY : ∀ w s, Yf s = Ya w → YP w s.heap) (hYk : ∀ w h h', YP w h → (∀ b o, h.get? b = some o → h'.get? b = some o) → YP w h')
    (hX : ∀ s, Xt s = true → XP (s.heap.nsMap mainGlobals) s.heap) (hXk : ∀ mg h h', XP mg h → (∀ b o, h.get? b = some o → h'.get? b = some o) → XP mg h')
    (hdef : defOf q r.name = some (d, kwd)) (hp : r.prog.theDef r.name = some (d.params, d.body, d.scope)) (hk : kwWritten? d.params.kwonlyargs d.params.kw_defaults = some kwd) (hRf : ∀ s, Xt s = true → RecFacts r.records s.heap) (hwr : (!r.writes || r.records.isEmpty) = true)
    (k1 : r.wellSaid = true) (ok : (chainsOk q && opensWell r.prog && (frees r.toRowW && r.within.isEmpty)) = true) (hb : r.prog.bare) (hw : r.toRowW.promised)
    (call : WalkP q loose XP YP r.toRowW d kwd) : r.Holds := by
  let tree : List Value → Sem Fin := fun vs => do match ← nsGet mainNs r.name with
      | some f => do ret (← PySem.call f vs)
      | none => unsupported "claim.caller:no-such-global"
  have H := open_anyG (r := r.toRowW) (defs := if r.pinned then [r.name] else []) (kps := r.keeps) (writes := r.writes) (run := fun f vs => guarded (PySem.call f vs) (.bool true)) (tree := fun vs => guarded (tree vs) (.done (.ret (.bool true)))) left hY hYk hX hXk hRf hwr ok hb hw
    (fun vs w s mg f Q E hg hf h Γ p hΓ => ?_) (fun w s hg G n hn => ?_) fun w s₀ s₁ mg mb G Y args vs as hpre hlay L low => ?_
  · refine ⟨k1, hw, H.1, H.2.1, fun w => ⟨(H.2.2 w).1, fun s hs => ?_⟩⟩
    obtain ⟨s₀, hf, hg, s₁, hT, h1, h2, h3, hc⟩ := (H.2.2 w).2 s hs
    have hs' : AfterImport (opening r.prog) w s := hs
    exact ⟨s₀, hf, hg, s₁, hT, h1, h2, h3, callFrom_unguarded (Shared.asleep_of_life (hT.2.1.trans (fence_lifeW hf)) hs'.life) hc⟩
  · by_cases e : ((Γ.code, p) :: Γ.below).all (fun x => okCode x.1) = true
    · have hc : Cln Γ := by rw [List.all_cons, Bool.and_eq_true, List.all_eq_true] at e; exact ⟨e.1, e.2⟩
      have z : wpP (model r.prog w) callerA (tree vs) Q E s := bindP (up (wpAny_nsGet hg (by rw [hf]; exact bindP (monoP (any_guarded h) (fun _ _ x => pureP x) fun _ _ x => x))))
      show wp _ Γ (if ((Γ.code, p) :: Γ.below).all (fun x => okCode x.1) = true then tree vs else .pure _) _ _ p s
      rw [if_pos e]
      exact z.go Γ p hΓ hc
    · have z := guarded_dirty h hΓ e
      show wp _ Γ (if ((Γ.code, p) :: Γ.below).all (fun x => okCode x.1) = true then tree vs else .pure _) _ _ p s
      rw [if_neg e]
      exact z
  · obtain rfl : n = r.name := by split at hn <;> simp_all
    exact pinned_of_view hg G hdef hp hk
  · obtain ⟨a, o, pm, cd, doc, dV, kV, h1, h2, h3, h4, h5⟩ := G.fn hdef
    have z := call w s₀ s₁ mg mb G Y a o pm cd doc dV kV h2 h3 h4 h5 (defOf_name hdef ▸ h1) L.gens args vs as hpre hlay L.reads L.well (L.low low)
    exact ⟨.ref a, h1, guarded_any z.1 z.2⟩
end Mine

end
section
set_option maxRecDepth 100000
open PySem PySem.W PySem.Calls PyProof.Rows
set_option Elab.async false
namespace Mine
/-! ## The head: what the text's top leaves -/
abbrev pw : Program := PySem.Challenge.pw_nz0362_01
def fnA (i : Nat) : Arguments := match pw.main.body[i]? with
  | some (.FunctionDef _ a _ _ _ _ _ _ _ _) => a
  | _ => default
def fnB (i : Nat) : List Stmt := match pw.main.body[i]? with
  | some (.FunctionDef _ _ b _ _ _ _ _ _ _) => b
  | _ => []
def fnS (i : Nat) : Scope := match pw.main.body[i]? with
  | some (.FunctionDef _ _ _ _ _ _ s _ _ _) => s
  | _ => default
def mt (i j : Nat) : Option Stmt := match pw.main.body[i]? with
  | some (.ClassDef _ _ _ b _ _ _ _ _ _ _) => b[j]?
  | _ => none
def mtA (i j : Nat) : Arguments := match mt i j with
  | some (.FunctionDef _ a _ _ _ _ _ _ _ _) => a
  | _ => default
def mtB (i j : Nat) : List Stmt := match mt i j with
  | some (.FunctionDef _ _ b _ _ _ _ _ _ _) => b
  | _ => []
def mtS (i j : Nat) : Scope := match mt i j with
  | some (.FunctionDef _ _ _ _ _ _ s _ _ _) => s
  | _ => default
abbrev de (P : Params) (x : String) (t : Tok) (v : Value) : DictEntry := ⟨PyData.keyHash P (Str.ofString x), .str (Str.ofString x) t, v⟩
noncomputable def KK (P : Params) : Frag := [
  (2, Obj.mk Value.none Option.none (Data.dict #[de P "type.__subclasses__.Exception.0" 205 (Value.int 24 0), de P "type.__subclasses__.Exception.n" 206 (Value.int 1 0)] 2) #[]),
  (3, Obj.mk (Value.type "dict") Option.none (Data.dict #[de P "__name__" 165 (Value.str (Str.ofString "law_nz0362_01") 575), de P "__doc__" 166 Value.none, de P "__package__" 167 Value.none, de P "__loader__" 168 (Value.builtin "__main__.__loader__#opaque"), de P "__spec__" 169 Value.none, de P "__annotations__" 170 (Value.ref 6), de P "__builtins__" 171 (Value.ref 4), de P "__file__" 173 (Value.str (Str.ofString "/claim/cut.py") 172), de P "__cached__" 174 Value.none, de P "KeepError" 208 (Value.ref 24), de P "StoreError" 224 (Value.ref 37), de P "Corrupt" 240 (Value.ref 49), de P "ShortOctets" 256 (Value.ref 61), de P "BadOption" 272 (Value.ref 73), de P "MAX_32" 276 (Value.int 4294967295 275), de P "MAX_64" 278 (Value.int 18446744073709551615 277), de P "write_groups" 287 (Value.ref 82), de P "read_groups" 301 (Value.ref 89), de P "put_varint" 308 (Value.ref 96), de P "read_varint" 316 (Value.ref 103), de P "put_varint32" 323 (Value.ref 110), de P "read_varint32" 331 (Value.ref 117), de P "varint_length" 339 (Value.ref 124), de P "put_fixed32" 346 (Value.ref 131), de P "put_fixed64" 353 (Value.ref 138), de P "read_fixed32" 361 (Value.ref 145), de P "read_fixed64" 369 (Value.ref 152), de P "read_lengthed" 378 (Value.ref 159), de P "Cursor" 483 (Value.ref 240), de P "Sink" 574 (Value.ref 317), de P "_law_edges" 582 (Value.ref 328), de P "_law_draw" 590 (Value.ref 335), de P "_law_groups" 596 (Value.ref 340), de P "_law_value" 602 (Value.ref 345), de P "_law_octets" 608 (Value.ref 350), de P "_law_write" 617 (Value.ref 357), de P "_law_counted" 624 (Value.ref 364), de P "_law_read" 633 (Value.ref 371), de P "_law_number" 639 (Value.ref 376), de P "_law_look" 645 (Value.ref 381), de P "_law_kind_fits" 653 (Value.ref 388), de P "law" 659 (Value.ref 393)] 42) #[]),
  (15, Obj.mk (Value.type "tuple") Option.none (Data.seq #[Value.type "Exception"]) #[]),
  (22, Obj.mk (Value.type "tuple") Option.none (Data.seq #[]) #[]),
  (23, Obj.mk (Value.type "dict") Option.none (Data.dict #[de P "__module__" 196 (Value.str (Str.ofString "raftkeep.errors") 187), de P "__firstlineno__" 200 (Value.int 2 199), de P "__static_attributes__" 201 (Value.ref 22), de P "__weakref__" 203 (Value.ref 25), de P "__doc__" 204 Value.none] 3) #[]),
  (24, Obj.mk (Value.type "type") Option.none (Data.cls (ClassData.mk (Str.ofString "KeepError") [Value.type "Exception"] [Value.ref 24, Value.type "Exception", Value.type "BaseException", Value.type "object"] 23 (Str.ofString "KeepError") Bool.true [] [Value.ref 37] Bool.false Option.none Bool.false)) #[Option.some (Value.ref 15), Option.none, Option.some (Value.str (Str.ofString "KeepError") 189), Option.some (Value.str (Str.ofString "KeepError") 197), Option.some (Value.builtin "Exception.__new__"), Option.some (Value.bool Bool.true)]),
  (25, Obj.mk (Value.type "getset_descriptor") Option.none (Data.fields #[Value.str (Str.ofString "__weakref__") 202, Value.ref 24, Value.builtin "ExceptionGroup.__weakref__", Value.none]) #[]),
  (28, Obj.mk (Value.type "tuple") Option.none (Data.seq #[Value.ref 24]) #[]),
  (35, Obj.mk (Value.type "tuple") Option.none (Data.seq #[]) #[]),
  (36, Obj.mk (Value.type "dict") Option.none (Data.dict #[de P "__module__" 216 (Value.str (Str.ofString "raftkeep.errors") 187), de P "__firstlineno__" 220 (Value.int 4 219), de P "__static_attributes__" 221 (Value.ref 35), de P "__doc__" 222 Value.none] 2) #[]),
  (37, Obj.mk (Value.type "type") Option.none (Data.cls (ClassData.mk (Str.ofString "StoreError") [Value.ref 24] [Value.ref 37, Value.ref 24, Value.type "Exception", Value.type "BaseException", Value.type "object"] 36 (Str.ofString "StoreError") Bool.true [] [Value.ref 49, Value.ref 73] Bool.false Option.none Bool.false)) #[Option.some (Value.ref 28), Option.none, Option.some (Value.str (Str.ofString "StoreError") 209), Option.some (Value.str (Str.ofString "StoreError") 217), Option.some (Value.builtin "Exception.__new__"), Option.some (Value.bool Bool.true)]),
  (40, Obj.mk (Value.type "tuple") Option.none (Data.seq #[Value.ref 37]) #[]),
  (47, Obj.mk (Value.type "tuple") Option.none (Data.seq #[]) #[]),
  (48, Obj.mk (Value.type "dict") Option.none (Data.dict #[de P "__module__" 232 (Value.str (Str.ofString "raftkeep.errors") 187), de P "__firstlineno__" 236 (Value.int 6 235), de P "__static_attributes__" 237 (Value.ref 47), de P "__doc__" 238 Value.none] 2) #[]),
  (49, Obj.mk (Value.type "type") Option.none (Data.cls (ClassData.mk (Str.ofString "Corrupt") [Value.ref 37] [Value.ref 49, Value.ref 37, Value.ref 24, Value.type "Exception", Value.type "BaseException", Value.type "object"] 48 (Str.ofString "Corrupt") Bool.true [] [Value.ref 61] Bool.false Option.none Bool.false)) #[Option.some (Value.ref 40), Option.none, Option.some (Value.str (Str.ofString "Corrupt") 225), Option.some (Value.str (Str.ofString "Corrupt") 233), Option.some (Value.builtin "Exception.__new__"), Option.some (Value.bool Bool.true)]),
  (52, Obj.mk (Value.type "tuple") Option.none (Data.seq #[Value.ref 49]) #[]),
  (59, Obj.mk (Value.type "tuple") Option.none (Data.seq #[]) #[]),
  (60, Obj.mk (Value.type "dict") Option.none (Data.dict #[de P "__module__" 248 (Value.str (Str.ofString "raftkeep.errors") 187), de P "__firstlineno__" 252 (Value.int 8 251), de P "__static_attributes__" 253 (Value.ref 59), de P "__doc__" 254 Value.none] 2) #[]),
  (61, Obj.mk (Value.type "type") Option.none (Data.cls (ClassData.mk (Str.ofString "ShortOctets") [Value.ref 49] [Value.ref 61, Value.ref 49, Value.ref 37, Value.ref 24, Value.type "Exception", Value.type "BaseException", Value.type "object"] 60 (Str.ofString "ShortOctets") Bool.true [] [] Bool.false Option.none Bool.false)) #[Option.some (Value.ref 52), Option.none, Option.some (Value.str (Str.ofString "ShortOctets") 241), Option.some (Value.str (Str.ofString "ShortOctets") 249), Option.some (Value.builtin "Exception.__new__"), Option.some (Value.bool Bool.true)]),
  (64, Obj.mk (Value.type "tuple") Option.none (Data.seq #[Value.ref 37]) #[]),
  (71, Obj.mk (Value.type "tuple") Option.none (Data.seq #[]) #[]),
  (72, Obj.mk (Value.type "dict") Option.none (Data.dict #[de P "__module__" 264 (Value.str (Str.ofString "raftkeep.errors") 187), de P "__firstlineno__" 268 (Value.int 10 267), de P "__static_attributes__" 269 (Value.ref 71), de P "__doc__" 270 Value.none] 2) #[]),
  (73, Obj.mk (Value.type "type") Option.none (Data.cls (ClassData.mk (Str.ofString "BadOption") [Value.ref 37] [Value.ref 73, Value.ref 37, Value.ref 24, Value.type "Exception", Value.type "BaseException", Value.type "object"] 72 (Str.ofString "BadOption") Bool.true [] [] Bool.false Option.none Bool.false)) #[Option.some (Value.ref 64), Option.none, Option.some (Value.str (Str.ofString "BadOption") 257), Option.some (Value.str (Str.ofString "BadOption") 265), Option.some (Value.builtin "Exception.__new__"), Option.some (Value.bool Bool.true)]),
  (76, Obj.mk (Value.type "tuple") Option.none (Data.seq #[]) #[]),
  (78, Obj.mk (Value.type "tuple") Option.none (Data.seq #[Value.str (Str.ofString "n") 282, Value.str (Str.ofString "most") 283, Value.str (Str.ofString "out") 284]) #[]),
  (79, Obj.mk (Value.type "tuple") Option.none (Data.seq #[]) #[]),
  (81, Obj.mk (Value.type "code") Option.none (Data.fields #[Value.str (Str.ofString "write_groups") 279, Value.str (Str.ofString "write_groups") 280, Value.str (Str.ofString "/claim/cut.py") 281, Value.int 15 0, Value.int 2 0, Value.int 0 0, Value.int 0 0, Value.int 3 0, Value.ref 76, Value.bool Bool.true, Value.int 181 0, Value.ref 77, Value.none, Value.ref 78, Value.ref 79, Value.ref 80, Value.int 285 0, Value.int 15 0, Value.str (Str.ofString "/claim/cut.py") 286]) #[]),
  (82, Obj.mk (Value.type "function") Option.none (Data.func (FuncData.mk (Str.ofString "write_groups") (Str.ofString "write_groups") (fnA 9) (FuncBody.stmts (fnB 9)) (fnS 9) 3 [] Value.none Value.none Value.none (Value.str (Str.ofString "raftkeep.octets") 273) Option.none (Value.ref 81) Value.none 0)) #[]),
  (83, Obj.mk (Value.type "tuple") Option.none (Data.seq #[]) #[]),
  (85, Obj.mk (Value.type "tuple") Option.none (Data.seq #[Value.str (Str.ofString "data") 291, Value.str (Str.ofString "at") 292, Value.str (Str.ofString "octets") 293, Value.str (Str.ofString "most") 294, Value.str (Str.ofString "n") 295, Value.str (Str.ofString "shift") 296, Value.str (Str.ofString "turn") 297, Value.str (Str.ofString "octet") 298]) #[]),
  (86, Obj.mk (Value.type "tuple") Option.none (Data.seq #[]) #[]),
  (88, Obj.mk (Value.type "code") Option.none (Data.fields #[Value.str (Str.ofString "read_groups") 288, Value.str (Str.ofString "read_groups") 289, Value.str (Str.ofString "/claim/cut.py") 290, Value.int 24 0, Value.int 4 0, Value.int 0 0, Value.int 0 0, Value.int 3 0, Value.ref 83, Value.bool Bool.true, Value.int 181 0, Value.ref 84, Value.none, Value.ref 85, Value.ref 86, Value.ref 87, Value.int 299 0, Value.int 24 0, Value.str (Str.ofString "/claim/cut.py") 300]) #[]),
  (89, Obj.mk (Value.type "function") Option.none (Data.func (FuncData.mk (Str.ofString "read_groups") (Str.ofString "read_groups") (fnA 10) (FuncBody.stmts (fnB 10)) (fnS 10) 3 [] Value.none Value.none Value.none (Value.str (Str.ofString "raftkeep.octets") 273) Option.none (Value.ref 88) Value.none 0)) #[]),
  (90, Obj.mk (Value.type "tuple") Option.none (Data.seq #[]) #[]),
  (92, Obj.mk (Value.type "tuple") Option.none (Data.seq #[Value.str (Str.ofString "n") 305]) #[]),
  (93, Obj.mk (Value.type "tuple") Option.none (Data.seq #[]) #[]),
  (95, Obj.mk (Value.type "code") Option.none (Data.fields #[Value.str (Str.ofString "put_varint") 302, Value.str (Str.ofString "put_varint") 303, Value.str (Str.ofString "/claim/cut.py") 304, Value.int 41 0, Value.int 1 0, Value.int 0 0, Value.int 0 0, Value.int 3 0, Value.ref 90, Value.bool Bool.true, Value.int 181 0, Value.ref 91, Value.none, Value.ref 92, Value.ref 93, Value.ref 94, Value.int 306 0, Value.int 41 0, Value.str (Str.ofString "/claim/cut.py") 307]) #[]),
  (96, Obj.mk (Value.type "function") Option.none (Data.func (FuncData.mk (Str.ofString "put_varint") (Str.ofString "put_varint") (fnA 11) (FuncBody.stmts (fnB 11)) (fnS 11) 3 [] Value.none Value.none Value.none (Value.str (Str.ofString "raftkeep.octets") 273) Option.none (Value.ref 95) Value.none 0)) #[]),
  (97, Obj.mk (Value.type "tuple") Option.none (Data.seq #[]) #[]),
  (99, Obj.mk (Value.type "tuple") Option.none (Data.seq #[Value.str (Str.ofString "data") 312, Value.str (Str.ofString "at") 313]) #[]),
  (100, Obj.mk (Value.type "tuple") Option.none (Data.seq #[]) #[]),
  (102, Obj.mk (Value.type "code") Option.none (Data.fields #[Value.str (Str.ofString "read_varint") 309, Value.str (Str.ofString "read_varint") 310, Value.str (Str.ofString "/claim/cut.py") 311, Value.int 45 0, Value.int 2 0, Value.int 0 0, Value.int 0 0, Value.int 3 0, Value.ref 97, Value.bool Bool.true, Value.int 181 0, Value.ref 98, Value.none, Value.ref 99, Value.ref 100, Value.ref 101, Value.int 314 0, Value.int 45 0, Value.str (Str.ofString "/claim/cut.py") 315]) #[]),
  (103, Obj.mk (Value.type "function") Option.none (Data.func (FuncData.mk (Str.ofString "read_varint") (Str.ofString "read_varint") (fnA 12) (FuncBody.stmts (fnB 12)) (fnS 12) 3 [] Value.none Value.none Value.none (Value.str (Str.ofString "raftkeep.octets") 273) Option.none (Value.ref 102) Value.none 0)) #[]),
  (104, Obj.mk (Value.type "tuple") Option.none (Data.seq #[]) #[]),
  (106, Obj.mk (Value.type "tuple") Option.none (Data.seq #[Value.str (Str.ofString "n") 320]) #[]),
  (107, Obj.mk (Value.type "tuple") Option.none (Data.seq #[]) #[]),
  (109, Obj.mk (Value.type "code") Option.none (Data.fields #[Value.str (Str.ofString "put_varint32") 317, Value.str (Str.ofString "put_varint32") 318, Value.str (Str.ofString "/claim/cut.py") 319, Value.int 49 0, Value.int 1 0, Value.int 0 0, Value.int 0 0, Value.int 3 0, Value.ref 104, Value.bool Bool.true, Value.int 181 0, Value.ref 105, Value.none, Value.ref 106, Value.ref 107, Value.ref 108, Value.int 321 0, Value.int 49 0, Value.str (Str.ofString "/claim/cut.py") 322]) #[]),
  (110, Obj.mk (Value.type "function") Option.none (Data.func (FuncData.mk (Str.ofString "put_varint32") (Str.ofString "put_varint32") (fnA 13) (FuncBody.stmts (fnB 13)) (fnS 13) 3 [] Value.none Value.none Value.none (Value.str (Str.ofString "raftkeep.octets") 273) Option.none (Value.ref 109) Value.none 0)) #[]),
  (111, Obj.mk (Value.type "tuple") Option.none (Data.seq #[]) #[]),
  (113, Obj.mk (Value.type "tuple") Option.none (Data.seq #[Value.str (Str.ofString "data") 327, Value.str (Str.ofString "at") 328]) #[]),
  (114, Obj.mk (Value.type "tuple") Option.none (Data.seq #[]) #[]),
  (116, Obj.mk (Value.type "code") Option.none (Data.fields #[Value.str (Str.ofString "read_varint32") 324, Value.str (Str.ofString "read_varint32") 325, Value.str (Str.ofString "/claim/cut.py") 326, Value.int 53 0, Value.int 2 0, Value.int 0 0, Value.int 0 0, Value.int 3 0, Value.ref 111, Value.bool Bool.true, Value.int 181 0, Value.ref 112, Value.none, Value.ref 113, Value.ref 114, Value.ref 115, Value.int 329 0, Value.int 53 0, Value.str (Str.ofString "/claim/cut.py") 330]) #[]),
  (117, Obj.mk (Value.type "function") Option.none (Data.func (FuncData.mk (Str.ofString "read_varint32") (Str.ofString "read_varint32") (fnA 14) (FuncBody.stmts (fnB 14)) (fnS 14) 3 [] Value.none Value.none Value.none (Value.str (Str.ofString "raftkeep.octets") 273) Option.none (Value.ref 116) Value.none 0)) #[]),
  (118, Obj.mk (Value.type "tuple") Option.none (Data.seq #[]) #[]),
  (120, Obj.mk (Value.type "tuple") Option.none (Data.seq #[Value.str (Str.ofString "n") 335, Value.str (Str.ofString "count") 336]) #[]),
  (121, Obj.mk (Value.type "tuple") Option.none (Data.seq #[]) #[]),
  (123, Obj.mk (Value.type "code") Option.none (Data.fields #[Value.str (Str.ofString "varint_length") 332, Value.str (Str.ofString "varint_length") 333, Value.str (Str.ofString "/claim/cut.py") 334, Value.int 57 0, Value.int 1 0, Value.int 0 0, Value.int 0 0, Value.int 3 0, Value.ref 118, Value.bool Bool.true, Value.int 181 0, Value.ref 119, Value.none, Value.ref 120, Value.ref 121, Value.ref 122, Value.int 337 0, Value.int 57 0, Value.str (Str.ofString "/claim/cut.py") 338]) #[]),
  (124, Obj.mk (Value.type "function") Option.none (Data.func (FuncData.mk (Str.ofString "varint_length") (Str.ofString "varint_length") (fnA 15) (FuncBody.stmts (fnB 15)) (fnS 15) 3 [] Value.none Value.none Value.none (Value.str (Str.ofString "raftkeep.octets") 273) Option.none (Value.ref 123) Value.none 0)) #[]),
  (125, Obj.mk (Value.type "tuple") Option.none (Data.seq #[]) #[]),
  (127, Obj.mk (Value.type "tuple") Option.none (Data.seq #[Value.str (Str.ofString "n") 343]) #[]),
  (128, Obj.mk (Value.type "tuple") Option.none (Data.seq #[]) #[]),
  (130, Obj.mk (Value.type "code") Option.none (Data.fields #[Value.str (Str.ofString "put_fixed32") 340, Value.str (Str.ofString "put_fixed32") 341, Value.str (Str.ofString "/claim/cut.py") 342, Value.int 65 0, Value.int 1 0, Value.int 0 0, Value.int 0 0, Value.int 3 0, Value.ref 125, Value.bool Bool.true, Value.int 181 0, Value.ref 126, Value.none, Value.ref 127, Value.ref 128, Value.ref 129, Value.int 344 0, Value.int 65 0, Value.str (Str.ofString "/claim/cut.py") 345]) #[]),
  (131, Obj.mk (Value.type "function") Option.none (Data.func (FuncData.mk (Str.ofString "put_fixed32") (Str.ofString "put_fixed32") (fnA 16) (FuncBody.stmts (fnB 16)) (fnS 16) 3 [] Value.none Value.none Value.none (Value.str (Str.ofString "raftkeep.octets") 273) Option.none (Value.ref 130) Value.none 0)) #[]),
  (132, Obj.mk (Value.type "tuple") Option.none (Data.seq #[]) #[]),
  (134, Obj.mk (Value.type "tuple") Option.none (Data.seq #[Value.str (Str.ofString "n") 350]) #[]),
  (135, Obj.mk (Value.type "tuple") Option.none (Data.seq #[]) #[]),
  (137, Obj.mk (Value.type "code") Option.none (Data.fields #[Value.str (Str.ofString "put_fixed64") 347, Value.str (Str.ofString "put_fixed64") 348, Value.str (Str.ofString "/claim/cut.py") 349, Value.int 69 0, Value.int 1 0, Value.int 0 0, Value.int 0 0, Value.int 3 0, Value.ref 132, Value.bool Bool.true, Value.int 181 0, Value.ref 133, Value.none, Value.ref 134, Value.ref 135, Value.ref 136, Value.int 351 0, Value.int 69 0, Value.str (Str.ofString "/claim/cut.py") 352]) #[]),
  (138, Obj.mk (Value.type "function") Option.none (Data.func (FuncData.mk (Str.ofString "put_fixed64") (Str.ofString "put_fixed64") (fnA 17) (FuncBody.stmts (fnB 17)) (fnS 17) 3 [] Value.none Value.none Value.none (Value.str (Str.ofString "raftkeep.octets") 273) Option.none (Value.ref 137) Value.none 0)) #[]),
  (139, Obj.mk (Value.type "tuple") Option.none (Data.seq #[]) #[]),
  (141, Obj.mk (Value.type "tuple") Option.none (Data.seq #[Value.str (Str.ofString "data") 357, Value.str (Str.ofString "at") 358]) #[]),
  (142, Obj.mk (Value.type "tuple") Option.none (Data.seq #[]) #[]),
  (144, Obj.mk (Value.type "code") Option.none (Data.fields #[Value.str (Str.ofString "read_fixed32") 354, Value.str (Str.ofString "read_fixed32") 355, Value.str (Str.ofString "/claim/cut.py") 356, Value.int 73 0, Value.int 2 0, Value.int 0 0, Value.int 0 0, Value.int 3 0, Value.ref 139, Value.bool Bool.true, Value.int 181 0, Value.ref 140, Value.none, Value.ref 141, Value.ref 142, Value.ref 143, Value.int 359 0, Value.int 73 0, Value.str (Str.ofString "/claim/cut.py") 360]) #[]),
  (145, Obj.mk (Value.type "function") Option.none (Data.func (FuncData.mk (Str.ofString "read_fixed32") (Str.ofString "read_fixed32") (fnA 18) (FuncBody.stmts (fnB 18)) (fnS 18) 3 [] Value.none Value.none Value.none (Value.str (Str.ofString "raftkeep.octets") 273) Option.none (Value.ref 144) Value.none 0)) #[]),
  (146, Obj.mk (Value.type "tuple") Option.none (Data.seq #[]) #[]),
  (148, Obj.mk (Value.type "tuple") Option.none (Data.seq #[Value.str (Str.ofString "data") 365, Value.str (Str.ofString "at") 366]) #[]),
  (149, Obj.mk (Value.type "tuple") Option.none (Data.seq #[]) #[]),
  (151, Obj.mk (Value.type "code") Option.none (Data.fields #[Value.str (Str.ofString "read_fixed64") 362, Value.str (Str.ofString "read_fixed64") 363, Value.str (Str.ofString "/claim/cut.py") 364, Value.int 77 0, Value.int 2 0, Value.int 0 0, Value.int 0 0, Value.int 3 0, Value.ref 146, Value.bool Bool.true, Value.int 181 0, Value.ref 147, Value.none, Value.ref 148, Value.ref 149, Value.ref 150, Value.int 367 0, Value.int 77 0, Value.str (Str.ofString "/claim/cut.py") 368]) #[]),
  (152, Obj.mk (Value.type "function") Option.none (Data.func (FuncData.mk (Str.ofString "read_fixed64") (Str.ofString "read_fixed64") (fnA 19) (FuncBody.stmts (fnB 19)) (fnS 19) 3 [] Value.none Value.none Value.none (Value.str (Str.ofString "raftkeep.octets") 273) Option.none (Value.ref 151) Value.none 0)) #[]),
  (153, Obj.mk (Value.type "tuple") Option.none (Data.seq #[]) #[]),
  (155, Obj.mk (Value.type "tuple") Option.none (Data.seq #[Value.str (Str.ofString "data") 373, Value.str (Str.ofString "at") 374, Value.str (Str.ofString "count") 375]) #[]),
  (156, Obj.mk (Value.type "tuple") Option.none (Data.seq #[]) #[]),
  (158, Obj.mk (Value.type "code") Option.none (Data.fields #[Value.str (Str.ofString "read_lengthed") 370, Value.str (Str.ofString "read_lengthed") 371, Value.str (Str.ofString "/claim/cut.py") 372, Value.int 81 0, Value.int 2 0, Value.int 0 0, Value.int 0 0, Value.int 3 0, Value.ref 153, Value.bool Bool.true, Value.int 181 0, Value.ref 154, Value.none, Value.ref 155, Value.ref 156, Value.ref 157, Value.int 376 0, Value.int 81 0, Value.str (Str.ofString "/claim/cut.py") 377]) #[]),
  (159, Obj.mk (Value.type "function") Option.none (Data.func (FuncData.mk (Str.ofString "read_lengthed") (Str.ofString "read_lengthed") (fnA 20) (FuncBody.stmts (fnB 20)) (fnS 20) 3 [] Value.none Value.none Value.none (Value.str (Str.ofString "raftkeep.octets") 273) Option.none (Value.ref 158) Value.none 0)) #[]),
  (167, Obj.mk (Value.type "tuple") Option.none (Data.seq #[Value.int 0 391]) #[]),
  (168, Obj.mk (Value.type "tuple") Option.none (Data.seq #[]) #[]),
  (170, Obj.mk (Value.type "tuple") Option.none (Data.seq #[Value.str (Str.ofString "self") 395, Value.str (Str.ofString "data") 396, Value.str (Str.ofString "at") 397]) #[]),
  (171, Obj.mk (Value.type "tuple") Option.none (Data.seq #[]) #[]),
  (173, Obj.mk (Value.type "code") Option.none (Data.fields #[Value.str (Str.ofString "__init__") 392, Value.str (Str.ofString "Cursor.__init__") 393, Value.str (Str.ofString "/claim/cut.py") 394, Value.int 88 0, Value.int 3 0, Value.int 0 0, Value.int 0 0, Value.int 3 0, Value.ref 168, Value.bool Bool.true, Value.int 181 0, Value.ref 169, Value.none, Value.ref 170, Value.ref 171, Value.ref 172, Value.int 398 0, Value.int 88 0, Value.str (Str.ofString "/claim/cut.py") 399]) #[]),
  (174, Obj.mk (Value.type "function") Option.none (Data.func (FuncData.mk (Str.ofString "__init__") (Str.ofString "Cursor.__init__") (mtA 21 0) (FuncBody.stmts (mtB 21 0)) (mtS 21 0) 3 [] (Value.ref 167) Value.none Value.none (Value.str (Str.ofString "raftkeep.octets") 273) Option.none (Value.ref 173) Value.none 0)) #[]),
  (175, Obj.mk (Value.type "tuple") Option.none (Data.seq #[]) #[]),
  (177, Obj.mk (Value.type "tuple") Option.none (Data.seq #[Value.str (Str.ofString "self") 404]) #[]),
  (178, Obj.mk (Value.type "tuple") Option.none (Data.seq #[]) #[]),
  (180, Obj.mk (Value.type "code") Option.none (Data.fields #[Value.str (Str.ofString "left") 401, Value.str (Str.ofString "Cursor.left") 402, Value.str (Str.ofString "/claim/cut.py") 403, Value.int 94 0, Value.int 1 0, Value.int 0 0, Value.int 0 0, Value.int 3 0, Value.ref 175, Value.bool Bool.true, Value.int 181 0, Value.ref 176, Value.none, Value.ref 177, Value.ref 178, Value.ref 179, Value.int 405 0, Value.int 94 0, Value.str (Str.ofString "/claim/cut.py") 406]) #[]),
  (181, Obj.mk (Value.type "function") Option.none (Data.func (FuncData.mk (Str.ofString "left") (Str.ofString "Cursor.left") (mtA 21 1) (FuncBody.stmts (mtB 21 1)) (mtS 21 1) 3 [] Value.none Value.none Value.none (Value.str (Str.ofString "raftkeep.octets") 273) Option.none (Value.ref 180) Value.none 0)) #[]),
  (182, Obj.mk (Value.type "tuple") Option.none (Data.seq #[]) #[]),
  (184, Obj.mk (Value.type "tuple") Option.none (Data.seq #[Value.str (Str.ofString "self") 411, Value.str (Str.ofString "at") 412, Value.str (Str.ofString "n") 413]) #[]),
  (185, Obj.mk (Value.type "tuple") Option.none (Data.seq #[]) #[]),
  (187, Obj.mk (Value.type "code") Option.none (Data.fields #[Value.str (Str.ofString "varint") 408, Value.str (Str.ofString "Cursor.varint") 409, Value.str (Str.ofString "/claim/cut.py") 410, Value.int 97 0, Value.int 1 0, Value.int 0 0, Value.int 0 0, Value.int 3 0, Value.ref 182, Value.bool Bool.true, Value.int 181 0, Value.ref 183, Value.none, Value.ref 184, Value.ref 185, Value.ref 186, Value.int 414 0, Value.int 97 0, Value.str (Str.ofString "/claim/cut.py") 415]) #[]),
  (188, Obj.mk (Value.type "function") Option.none (Data.func (FuncData.mk (Str.ofString "varint") (Str.ofString "Cursor.varint") (mtA 21 2) (FuncBody.stmts (mtB 21 2)) (mtS 21 2) 3 [] Value.none Value.none Value.none (Value.str (Str.ofString "raftkeep.octets") 273) Option.none (Value.ref 187) Value.none 0)) #[]),
  (189, Obj.mk (Value.type "tuple") Option.none (Data.seq #[]) #[]),
  (191, Obj.mk (Value.type "tuple") Option.none (Data.seq #[Value.str (Str.ofString "self") 420, Value.str (Str.ofString "n") 421]) #[]),
  (192, Obj.mk (Value.type "tuple") Option.none (Data.seq #[]) #[]),
  (194, Obj.mk (Value.type "code") Option.none (Data.fields #[Value.str (Str.ofString "fixed32") 417, Value.str (Str.ofString "Cursor.fixed32") 418, Value.str (Str.ofString "/claim/cut.py") 419, Value.int 106 0, Value.int 1 0, Value.int 0 0, Value.int 0 0, Value.int 3 0, Value.ref 189, Value.bool Bool.true, Value.int 181 0, Value.ref 190, Value.none, Value.ref 191, Value.ref 192, Value.ref 193, Value.int 422 0, Value.int 106 0, Value.str (Str.ofString "/claim/cut.py") 423]) #[]),
  (195, Obj.mk (Value.type "function") Option.none (Data.func (FuncData.mk (Str.ofString "fixed32") (Str.ofString "Cursor.fixed32") (mtA 21 3) (FuncBody.stmts (mtB 21 3)) (mtS 21 3) 3 [] Value.none Value.none Value.none (Value.str (Str.ofString "raftkeep.octets") 273) Option.none (Value.ref 194) Value.none 0)) #[]),
  (196, Obj.mk (Value.type "tuple") Option.none (Data.seq #[]) #[]),
  (198, Obj.mk (Value.type "tuple") Option.none (Data.seq #[Value.str (Str.ofString "self") 428, Value.str (Str.ofString "n") 429]) #[]),
  (199, Obj.mk (Value.type "tuple") Option.none (Data.seq #[]) #[]),
  (201, Obj.mk (Value.type "code") Option.none (Data.fields #[Value.str (Str.ofString "fixed64") 425, Value.str (Str.ofString "Cursor.fixed64") 426, Value.str (Str.ofString "/claim/cut.py") 427, Value.int 111 0, Value.int 1 0, Value.int 0 0, Value.int 0 0, Value.int 3 0, Value.ref 196, Value.bool Bool.true, Value.int 181 0, Value.ref 197, Value.none, Value.ref 198, Value.ref 199, Value.ref 200, Value.int 430 0, Value.int 111 0, Value.str (Str.ofString "/claim/cut.py") 431]) #[]),
  (202, Obj.mk (Value.type "function") Option.none (Data.func (FuncData.mk (Str.ofString "fixed64") (Str.ofString "Cursor.fixed64") (mtA 21 4) (FuncBody.stmts (mtB 21 4)) (mtS 21 4) 3 [] Value.none Value.none Value.none (Value.str (Str.ofString "raftkeep.octets") 273) Option.none (Value.ref 201) Value.none 0)) #[]),
  (203, Obj.mk (Value.type "tuple") Option.none (Data.seq #[]) #[]),
  (205, Obj.mk (Value.type "tuple") Option.none (Data.seq #[Value.str (Str.ofString "self") 436, Value.str (Str.ofString "b") 437, Value.str (Str.ofString "at") 438]) #[]),
  (206, Obj.mk (Value.type "tuple") Option.none (Data.seq #[]) #[]),
  (208, Obj.mk (Value.type "code") Option.none (Data.fields #[Value.str (Str.ofString "lengthed") 433, Value.str (Str.ofString "Cursor.lengthed") 434, Value.str (Str.ofString "/claim/cut.py") 435, Value.int 116 0, Value.int 1 0, Value.int 0 0, Value.int 0 0, Value.int 3 0, Value.ref 203, Value.bool Bool.true, Value.int 181 0, Value.ref 204, Value.none, Value.ref 205, Value.ref 206, Value.ref 207, Value.int 439 0, Value.int 116 0, Value.str (Str.ofString "/claim/cut.py") 440]) #[]),
  (209, Obj.mk (Value.type "function") Option.none (Data.func (FuncData.mk (Str.ofString "lengthed") (Str.ofString "Cursor.lengthed") (mtA 21 5) (FuncBody.stmts (mtB 21 5)) (mtS 21 5) 3 [] Value.none Value.none Value.none (Value.str (Str.ofString "raftkeep.octets") 273) Option.none (Value.ref 208) Value.none 0)) #[]),
  (210, Obj.mk (Value.type "tuple") Option.none (Data.seq #[]) #[]),
  (212, Obj.mk (Value.type "tuple") Option.none (Data.seq #[Value.str (Str.ofString "self") 445, Value.str (Str.ofString "n") 446]) #[]),
  (213, Obj.mk (Value.type "tuple") Option.none (Data.seq #[]) #[]),
  (215, Obj.mk (Value.type "code") Option.none (Data.fields #[Value.str (Str.ofString "octet") 442, Value.str (Str.ofString "Cursor.octet") 443, Value.str (Str.ofString "/claim/cut.py") 444, Value.int 121 0, Value.int 1 0, Value.int 0 0, Value.int 0 0, Value.int 3 0, Value.ref 210, Value.bool Bool.true, Value.int 181 0, Value.ref 211, Value.none, Value.ref 212, Value.ref 213, Value.ref 214, Value.int 447 0, Value.int 121 0, Value.str (Str.ofString "/claim/cut.py") 448]) #[]),
  (216, Obj.mk (Value.type "function") Option.none (Data.func (FuncData.mk (Str.ofString "octet") (Str.ofString "Cursor.octet") (mtA 21 6) (FuncBody.stmts (mtB 21 6)) (mtS 21 6) 3 [] Value.none Value.none Value.none (Value.str (Str.ofString "raftkeep.octets") 273) Option.none (Value.ref 215) Value.none 0)) #[]),
  (217, Obj.mk (Value.type "tuple") Option.none (Data.seq #[]) #[]),
  (219, Obj.mk (Value.type "tuple") Option.none (Data.seq #[Value.str (Str.ofString "self") 453, Value.str (Str.ofString "n") 454]) #[]),
  (220, Obj.mk (Value.type "tuple") Option.none (Data.seq #[]) #[]),
  (222, Obj.mk (Value.type "code") Option.none (Data.fields #[Value.str (Str.ofString "flag") 450, Value.str (Str.ofString "Cursor.flag") 451, Value.str (Str.ofString "/claim/cut.py") 452, Value.int 128 0, Value.int 1 0, Value.int 0 0, Value.int 0 0, Value.int 3 0, Value.ref 217, Value.bool Bool.true, Value.int 181 0, Value.ref 218, Value.none, Value.ref 219, Value.ref 220, Value.ref 221, Value.int 455 0, Value.int 128 0, Value.str (Str.ofString "/claim/cut.py") 456]) #[]),
  (223, Obj.mk (Value.type "function") Option.none (Data.func (FuncData.mk (Str.ofString "flag") (Str.ofString "Cursor.flag") (mtA 21 7) (FuncBody.stmts (mtB 21 7)) (mtS 21 7) 3 [] Value.none Value.none Value.none (Value.str (Str.ofString "raftkeep.octets") 273) Option.none (Value.ref 222) Value.none 0)) #[]),
  (224, Obj.mk (Value.type "tuple") Option.none (Data.seq #[]) #[]),
  (226, Obj.mk (Value.type "tuple") Option.none (Data.seq #[Value.str (Str.ofString "self") 461, Value.str (Str.ofString "n") 462, Value.str (Str.ofString "b") 463]) #[]),
  (227, Obj.mk (Value.type "tuple") Option.none (Data.seq #[]) #[]),
  (229, Obj.mk (Value.type "code") Option.none (Data.fields #[Value.str (Str.ofString "take") 458, Value.str (Str.ofString "Cursor.take") 459, Value.str (Str.ofString "/claim/cut.py") 460, Value.int 137 0, Value.int 2 0, Value.int 0 0, Value.int 0 0, Value.int 3 0, Value.ref 224, Value.bool Bool.true, Value.int 181 0, Value.ref 225, Value.none, Value.ref 226, Value.ref 227, Value.ref 228, Value.int 464 0, Value.int 137 0, Value.str (Str.ofString "/claim/cut.py") 465]) #[]),
  (230, Obj.mk (Value.type "function") Option.none (Data.func (FuncData.mk (Str.ofString "take") (Str.ofString "Cursor.take") (mtA 21 8) (FuncBody.stmts (mtB 21 8)) (mtS 21 8) 3 [] Value.none Value.none Value.none (Value.str (Str.ofString "raftkeep.octets") 273) Option.none (Value.ref 229) Value.none 0)) #[]),
  (231, Obj.mk (Value.type "tuple") Option.none (Data.seq #[]) #[]),
  (233, Obj.mk (Value.type "tuple") Option.none (Data.seq #[Value.str (Str.ofString "self") 470]) #[]),
  (234, Obj.mk (Value.type "tuple") Option.none (Data.seq #[]) #[]),
  (236, Obj.mk (Value.type "code") Option.none (Data.fields #[Value.str (Str.ofString "done") 467, Value.str (Str.ofString "Cursor.done") 468, Value.str (Str.ofString "/claim/cut.py") 469, Value.int 144 0, Value.int 1 0, Value.int 0 0, Value.int 0 0, Value.int 3 0, Value.ref 231, Value.bool Bool.true, Value.int 181 0, Value.ref 232, Value.none, Value.ref 233, Value.ref 234, Value.ref 235, Value.int 471 0, Value.int 144 0, Value.str (Str.ofString "/claim/cut.py") 472]) #[]),
  (237, Obj.mk (Value.type "function") Option.none (Data.func (FuncData.mk (Str.ofString "done") (Str.ofString "Cursor.done") (mtA 21 9) (FuncBody.stmts (mtB 21 9)) (mtS 21 9) 3 [] Value.none Value.none Value.none (Value.str (Str.ofString "raftkeep.octets") 273) Option.none (Value.ref 236) Value.none 0)) #[]),
  (238, Obj.mk (Value.type "tuple") Option.none (Data.seq #[Value.str (Str.ofString "at") 474, Value.str (Str.ofString "data") 475]) #[]),
  (239, Obj.mk (Value.type "dict") Option.none (Data.dict #[de P "__module__" 386 (Value.str (Str.ofString "raftkeep.octets") 273), de P "__firstlineno__" 390 (Value.int 86 389), de P "__init__" 400 (Value.ref 174), de P "left" 407 (Value.ref 181), de P "varint" 416 (Value.ref 188), de P "fixed32" 424 (Value.ref 195), de P "fixed64" 432 (Value.ref 202), de P "lengthed" 441 (Value.ref 209), de P "octet" 449 (Value.ref 216), de P "flag" 457 (Value.ref 223), de P "take" 466 (Value.ref 230), de P "done" 473 (Value.ref 237), de P "__static_attributes__" 476 (Value.ref 238), de P "__dict__" 478 (Value.ref 241), de P "__weakref__" 480 (Value.ref 242), de P "__doc__" 481 Value.none] 4) #[]),
  (240, Obj.mk (Value.type "type") Option.none (Data.cls (ClassData.mk (Str.ofString "Cursor") [Value.type "object"] [Value.ref 240, Value.type "object"] 239 (Str.ofString "Cursor") Bool.true [] [] Bool.false Option.none Bool.false)) #[Option.none, Option.none, Option.some (Value.str (Str.ofString "Cursor") 379), Option.some (Value.str (Str.ofString "Cursor") 387), Option.some (Value.builtin "object.__new__"), Option.some (Value.bool Bool.true)]),
  (241, Obj.mk (Value.type "getset_descriptor") Option.none (Data.fields #[Value.str (Str.ofString "__dict__") 477, Value.ref 240, Value.builtin "function.__dict__", Value.builtin "function.__dict__#set"]) #[]),
  (242, Obj.mk (Value.type "getset_descriptor") Option.none (Data.fields #[Value.str (Str.ofString "__weakref__") 479, Value.ref 240, Value.builtin "ExceptionGroup.__weakref__", Value.none]) #[]),
  (252, Obj.mk (Value.type "tuple") Option.none (Data.seq #[]) #[]),
  (254, Obj.mk (Value.type "tuple") Option.none (Data.seq #[Value.str (Str.ofString "self") 499]) #[]),
  (255, Obj.mk (Value.type "tuple") Option.none (Data.seq #[]) #[]),
  (257, Obj.mk (Value.type "code") Option.none (Data.fields #[Value.str (Str.ofString "__init__") 496, Value.str (Str.ofString "Sink.__init__") 497, Value.str (Str.ofString "/claim/cut.py") 498, Value.int 149 0, Value.int 1 0, Value.int 0 0, Value.int 0 0, Value.int 3 0, Value.ref 252, Value.bool Bool.true, Value.int 181 0, Value.ref 253, Value.none, Value.ref 254, Value.ref 255, Value.ref 256, Value.int 500 0, Value.int 149 0, Value.str (Str.ofString "/claim/cut.py") 501]) #[]),
  (258, Obj.mk (Value.type "function") Option.none (Data.func (FuncData.mk (Str.ofString "__init__") (Str.ofString "Sink.__init__") (mtA 22 0) (FuncBody.stmts (mtB 22 0)) (mtS 22 0) 3 [] Value.none Value.none Value.none (Value.str (Str.ofString "raftkeep.octets") 273) Option.none (Value.ref 257) Value.none 0)) #[]),
  (259, Obj.mk (Value.type "tuple") Option.none (Data.seq #[]) #[]),
  (261, Obj.mk (Value.type "tuple") Option.none (Data.seq #[Value.str (Str.ofString "self") 506, Value.str (Str.ofString "n") 507]) #[]),
  (262, Obj.mk (Value.type "tuple") Option.none (Data.seq #[]) #[]),
  (264, Obj.mk (Value.type "code") Option.none (Data.fields #[Value.str (Str.ofString "varint") 503, Value.str (Str.ofString "Sink.varint") 504, Value.str (Str.ofString "/claim/cut.py") 505, Value.int 152 0, Value.int 2 0, Value.int 0 0, Value.int 0 0, Value.int 3 0, Value.ref 259, Value.bool Bool.true, Value.int 181 0, Value.ref 260, Value.none, Value.ref 261, Value.ref 262, Value.ref 263, Value.int 508 0, Value.int 152 0, Value.str (Str.ofString "/claim/cut.py") 509]) #[]),
  (265, Obj.mk (Value.type "function") Option.none (Data.func (FuncData.mk (Str.ofString "varint") (Str.ofString "Sink.varint") (mtA 22 1) (FuncBody.stmts (mtB 22 1)) (mtS 22 1) 3 [] Value.none Value.none Value.none (Value.str (Str.ofString "raftkeep.octets") 273) Option.none (Value.ref 264) Value.none 0)) #[]),
  (266, Obj.mk (Value.type "tuple") Option.none (Data.seq #[]) #[]),
  (268, Obj.mk (Value.type "tuple") Option.none (Data.seq #[Value.str (Str.ofString "self") 514, Value.str (Str.ofString "n") 515]) #[]),
  (269, Obj.mk (Value.type "tuple") Option.none (Data.seq #[]) #[]),
  (271, Obj.mk (Value.type "code") Option.none (Data.fields #[Value.str (Str.ofString "fixed32") 511, Value.str (Str.ofString "Sink.fixed32") 512, Value.str (Str.ofString "/claim/cut.py") 513, Value.int 158 0, Value.int 2 0, Value.int 0 0, Value.int 0 0, Value.int 3 0, Value.ref 266, Value.bool Bool.true, Value.int 181 0, Value.ref 267, Value.none, Value.ref 268, Value.ref 269, Value.ref 270, Value.int 516 0, Value.int 158 0, Value.str (Str.ofString "/claim/cut.py") 517]) #[]),
  (272, Obj.mk (Value.type "function") Option.none (Data.func (FuncData.mk (Str.ofString "fixed32") (Str.ofString "Sink.fixed32") (mtA 22 2) (FuncBody.stmts (mtB 22 2)) (mtS 22 2) 3 [] Value.none Value.none Value.none (Value.str (Str.ofString "raftkeep.octets") 273) Option.none (Value.ref 271) Value.none 0)) #[]),
  (273, Obj.mk (Value.type "tuple") Option.none (Data.seq #[]) #[]),
  (275, Obj.mk (Value.type "tuple") Option.none (Data.seq #[Value.str (Str.ofString "self") 522, Value.str (Str.ofString "n") 523]) #[]),
  (276, Obj.mk (Value.type "tuple") Option.none (Data.seq #[]) #[]),
  (278, Obj.mk (Value.type "code") Option.none (Data.fields #[Value.str (Str.ofString "fixed64") 519, Value.str (Str.ofString "Sink.fixed64") 520, Value.str (Str.ofString "/claim/cut.py") 521, Value.int 161 0, Value.int 2 0, Value.int 0 0, Value.int 0 0, Value.int 3 0, Value.ref 273, Value.bool Bool.true, Value.int 181 0, Value.ref 274, Value.none, Value.ref 275, Value.ref 276, Value.ref 277, Value.int 524 0, Value.int 161 0, Value.str (Str.ofString "/claim/cut.py") 525]) #[]),
  (279, Obj.mk (Value.type "function") Option.none (Data.func (FuncData.mk (Str.ofString "fixed64") (Str.ofString "Sink.fixed64") (mtA 22 3) (FuncBody.stmts (mtB 22 3)) (mtS 22 3) 3 [] Value.none Value.none Value.none (Value.str (Str.ofString "raftkeep.octets") 273) Option.none (Value.ref 278) Value.none 0)) #[]),
  (280, Obj.mk (Value.type "tuple") Option.none (Data.seq #[]) #[]),
  (282, Obj.mk (Value.type "tuple") Option.none (Data.seq #[Value.str (Str.ofString "self") 530, Value.str (Str.ofString "b") 531]) #[]),
  (283, Obj.mk (Value.type "tuple") Option.none (Data.seq #[]) #[]),
  (285, Obj.mk (Value.type "code") Option.none (Data.fields #[Value.str (Str.ofString "lengthed") 527, Value.str (Str.ofString "Sink.lengthed") 528, Value.str (Str.ofString "/claim/cut.py") 529, Value.int 164 0, Value.int 2 0, Value.int 0 0, Value.int 0 0, Value.int 3 0, Value.ref 280, Value.bool Bool.true, Value.int 181 0, Value.ref 281, Value.none, Value.ref 282, Value.ref 283, Value.ref 284, Value.int 532 0, Value.int 164 0, Value.str (Str.ofString "/claim/cut.py") 533]) #[]),
  (286, Obj.mk (Value.type "function") Option.none (Data.func (FuncData.mk (Str.ofString "lengthed") (Str.ofString "Sink.lengthed") (mtA 22 4) (FuncBody.stmts (mtB 22 4)) (mtS 22 4) 3 [] Value.none Value.none Value.none (Value.str (Str.ofString "raftkeep.octets") 273) Option.none (Value.ref 285) Value.none 0)) #[]),
  (287, Obj.mk (Value.type "tuple") Option.none (Data.seq #[]) #[]),
  (289, Obj.mk (Value.type "tuple") Option.none (Data.seq #[Value.str (Str.ofString "self") 538, Value.str (Str.ofString "n") 539]) #[]),
  (290, Obj.mk (Value.type "tuple") Option.none (Data.seq #[]) #[]),
  (292, Obj.mk (Value.type "code") Option.none (Data.fields #[Value.str (Str.ofString "octet") 535, Value.str (Str.ofString "Sink.octet") 536, Value.str (Str.ofString "/claim/cut.py") 537, Value.int 168 0, Value.int 2 0, Value.int 0 0, Value.int 0 0, Value.int 3 0, Value.ref 287, Value.bool Bool.true, Value.int 181 0, Value.ref 288, Value.none, Value.ref 289, Value.ref 290, Value.ref 291, Value.int 540 0, Value.int 168 0, Value.str (Str.ofString "/claim/cut.py") 541]) #[]),
  (293, Obj.mk (Value.type "function") Option.none (Data.func (FuncData.mk (Str.ofString "octet") (Str.ofString "Sink.octet") (mtA 22 5) (FuncBody.stmts (mtB 22 5)) (mtS 22 5) 3 [] Value.none Value.none Value.none (Value.str (Str.ofString "raftkeep.octets") 273) Option.none (Value.ref 292) Value.none 0)) #[]),
  (294, Obj.mk (Value.type "tuple") Option.none (Data.seq #[]) #[]),
  (296, Obj.mk (Value.type "tuple") Option.none (Data.seq #[Value.str (Str.ofString "self") 546, Value.str (Str.ofString "b") 547]) #[]),
  (297, Obj.mk (Value.type "tuple") Option.none (Data.seq #[]) #[]),
  (299, Obj.mk (Value.type "code") Option.none (Data.fields #[Value.str (Str.ofString "flag") 543, Value.str (Str.ofString "Sink.flag") 544, Value.str (Str.ofString "/claim/cut.py") 545, Value.int 173 0, Value.int 2 0, Value.int 0 0, Value.int 0 0, Value.int 3 0, Value.ref 294, Value.bool Bool.true, Value.int 181 0, Value.ref 295, Value.none, Value.ref 296, Value.ref 297, Value.ref 298, Value.int 548 0, Value.int 173 0, Value.str (Str.ofString "/claim/cut.py") 549]) #[]),
  (300, Obj.mk (Value.type "function") Option.none (Data.func (FuncData.mk (Str.ofString "flag") (Str.ofString "Sink.flag") (mtA 22 6) (FuncBody.stmts (mtB 22 6)) (mtS 22 6) 3 [] Value.none Value.none Value.none (Value.str (Str.ofString "raftkeep.octets") 273) Option.none (Value.ref 299) Value.none 0)) #[]),
  (301, Obj.mk (Value.type "tuple") Option.none (Data.seq #[]) #[]),
  (303, Obj.mk (Value.type "tuple") Option.none (Data.seq #[Value.str (Str.ofString "self") 554, Value.str (Str.ofString "b") 555]) #[]),
  (304, Obj.mk (Value.type "tuple") Option.none (Data.seq #[]) #[]),
  (306, Obj.mk (Value.type "code") Option.none (Data.fields #[Value.str (Str.ofString "raw") 551, Value.str (Str.ofString "Sink.raw") 552, Value.str (Str.ofString "/claim/cut.py") 553, Value.int 179 0, Value.int 2 0, Value.int 0 0, Value.int 0 0, Value.int 3 0, Value.ref 301, Value.bool Bool.true, Value.int 181 0, Value.ref 302, Value.none, Value.ref 303, Value.ref 304, Value.ref 305, Value.int 556 0, Value.int 179 0, Value.str (Str.ofString "/claim/cut.py") 557]) #[]),
  (307, Obj.mk (Value.type "function") Option.none (Data.func (FuncData.mk (Str.ofString "raw") (Str.ofString "Sink.raw") (mtA 22 7) (FuncBody.stmts (mtB 22 7)) (mtS 22 6) 3 [] Value.none Value.none Value.none (Value.str (Str.ofString "raftkeep.octets") 273) Option.none (Value.ref 306) Value.none 0)) #[]),
  (308, Obj.mk (Value.type "tuple") Option.none (Data.seq #[]) #[]),
  (310, Obj.mk (Value.type "tuple") Option.none (Data.seq #[Value.str (Str.ofString "self") 562]) #[]),
  (311, Obj.mk (Value.type "tuple") Option.none (Data.seq #[]) #[]),
  (313, Obj.mk (Value.type "code") Option.none (Data.fields #[Value.str (Str.ofString "done") 559, Value.str (Str.ofString "Sink.done") 560, Value.str (Str.ofString "/claim/cut.py") 561, Value.int 182 0, Value.int 1 0, Value.int 0 0, Value.int 0 0, Value.int 3 0, Value.ref 308, Value.bool Bool.true, Value.int 181 0, Value.ref 309, Value.none, Value.ref 310, Value.ref 311, Value.ref 312, Value.int 563 0, Value.int 182 0, Value.str (Str.ofString "/claim/cut.py") 564]) #[]),
  (314, Obj.mk (Value.type "function") Option.none (Data.func (FuncData.mk (Str.ofString "done") (Str.ofString "Sink.done") (mtA 22 8) (FuncBody.stmts (mtB 22 8)) (mtS 22 8) 3 [] Value.none Value.none Value.none (Value.str (Str.ofString "raftkeep.octets") 273) Option.none (Value.ref 313) Value.none 0)) #[]),
  (315, Obj.mk (Value.type "tuple") Option.none (Data.seq #[Value.str (Str.ofString "parts") 566]) #[]),
  (316, Obj.mk (Value.type "dict") Option.none (Data.dict #[de P "__module__" 491 (Value.str (Str.ofString "raftkeep.octets") 273), de P "__firstlineno__" 495 (Value.int 147 494), de P "__init__" 502 (Value.ref 258), de P "varint" 510 (Value.ref 265), de P "fixed32" 518 (Value.ref 272), de P "fixed64" 526 (Value.ref 279), de P "lengthed" 534 (Value.ref 286), de P "octet" 542 (Value.ref 293), de P "flag" 550 (Value.ref 300), de P "raw" 558 (Value.ref 307), de P "done" 565 (Value.ref 314), de P "__static_attributes__" 567 (Value.ref 315), de P "__dict__" 569 (Value.ref 318), de P "__weakref__" 571 (Value.ref 319), de P "__doc__" 572 Value.none] 4) #[]),
  (317, Obj.mk (Value.type "type") Option.none (Data.cls (ClassData.mk (Str.ofString "Sink") [Value.type "object"] [Value.ref 317, Value.type "object"] 316 (Str.ofString "Sink") Bool.true [] [] Bool.false Option.none Bool.false)) #[Option.none, Option.none, Option.some (Value.str (Str.ofString "Sink") 484), Option.some (Value.str (Str.ofString "Sink") 492), Option.some (Value.builtin "object.__new__"), Option.some (Value.bool Bool.true)]),
  (318, Obj.mk (Value.type "getset_descriptor") Option.none (Data.fields #[Value.str (Str.ofString "__dict__") 568, Value.ref 317, Value.builtin "function.__dict__", Value.builtin "function.__dict__#set"]) #[]),
  (319, Obj.mk (Value.type "getset_descriptor") Option.none (Data.fields #[Value.str (Str.ofString "__weakref__") 570, Value.ref 317, Value.builtin "ExceptionGroup.__weakref__", Value.none]) #[]),
  (322, Obj.mk (Value.type "tuple") Option.none (Data.seq #[]) #[]),
  (324, Obj.mk (Value.type "tuple") Option.none (Data.seq #[]) #[]),
  (325, Obj.mk (Value.type "tuple") Option.none (Data.seq #[]) #[]),
  (327, Obj.mk (Value.type "code") Option.none (Data.fields #[Value.str (Str.ofString "_law_edges") 577, Value.str (Str.ofString "_law_edges") 578, Value.str (Str.ofString "/claim/cut.py") 579, Value.int 185 0, Value.int 0 0, Value.int 0 0, Value.int 0 0, Value.int 3 0, Value.ref 322, Value.bool Bool.true, Value.int 181 0, Value.ref 323, Value.none, Value.ref 324, Value.ref 325, Value.ref 326, Value.int 580 0, Value.int 185 0, Value.str (Str.ofString "/claim/cut.py") 581]) #[]),
  (328, Obj.mk (Value.type "function") Option.none (Data.func (FuncData.mk (Str.ofString "_law_edges") (Str.ofString "_law_edges") (fnA 24) (FuncBody.stmts (fnB 24)) (fnS 24) 3 [] Value.none Value.none Value.none (Value.str (Str.ofString "law_nz0362_01") 575) Option.none (Value.ref 327) Value.none 0)) #[]),
  (329, Obj.mk (Value.type "tuple") Option.none (Data.seq #[]) #[]),
  (331, Obj.mk (Value.type "tuple") Option.none (Data.seq #[Value.str (Str.ofString "nums") 586, Value.str (Str.ofString "i") 587]) #[]),
  (332, Obj.mk (Value.type "tuple") Option.none (Data.seq #[]) #[]),
  (334, Obj.mk (Value.type "code") Option.none (Data.fields #[Value.str (Str.ofString "_law_draw") 583, Value.str (Str.ofString "_law_draw") 584, Value.str (Str.ofString "/claim/cut.py") 585, Value.int 187 0, Value.int 2 0, Value.int 0 0, Value.int 0 0, Value.int 3 0, Value.ref 329, Value.bool Bool.true, Value.int 181 0, Value.ref 330, Value.none, Value.ref 331, Value.ref 332, Value.ref 333, Value.int 588 0, Value.int 187 0, Value.str (Str.ofString "/claim/cut.py") 589]) #[]),
  (335, Obj.mk (Value.type "function") Option.none (Data.func (FuncData.mk (Str.ofString "_law_draw") (Str.ofString "_law_draw") (fnA 25) (FuncBody.stmts (fnB 25)) (fnS 25) 3 [] Value.none Value.none Value.none (Value.str (Str.ofString "law_nz0362_01") 575) Option.none (Value.ref 334) Value.none 0)) #[]),
  (336, Obj.mk (Value.type "tuple") Option.none (Data.seq #[]) #[]),
  (339, Obj.mk (Value.type "code") Option.none (Data.fields #[Value.str (Str.ofString "_law_groups") 591, Value.str (Str.ofString "_law_groups") 592, Value.str (Str.ofString "/claim/cut.py") 593, Value.int 189 0, Value.int 1 0, Value.int 0 0, Value.int 0 0, Value.int 3 0, Value.ref 336, Value.bool Bool.true, Value.int 181 0, Value.ref 337, Value.none, Value.none, Value.none, Value.ref 338, Value.int 594 0, Value.int 189 0, Value.str (Str.ofString "/claim/cut.py") 595]) #[]),
  (340, Obj.mk (Value.type "function") Option.none (Data.func (FuncData.mk (Str.ofString "_law_groups") (Str.ofString "_law_groups") (fnA 26) (FuncBody.stmts (fnB 26)) (fnS 26) 3 [] Value.none Value.none Value.none (Value.str (Str.ofString "law_nz0362_01") 575) Option.none (Value.ref 339) Value.none 0)) #[]),
  (341, Obj.mk (Value.type "tuple") Option.none (Data.seq #[]) #[]),
  (344, Obj.mk (Value.type "code") Option.none (Data.fields #[Value.str (Str.ofString "_law_value") 597, Value.str (Str.ofString "_law_value") 598, Value.str (Str.ofString "/claim/cut.py") 599, Value.int 195 0, Value.int 2 0, Value.int 0 0, Value.int 0 0, Value.int 3 0, Value.ref 341, Value.bool Bool.true, Value.int 181 0, Value.ref 342, Value.none, Value.none, Value.none, Value.ref 343, Value.int 600 0, Value.int 195 0, Value.str (Str.ofString "/claim/cut.py") 601]) #[]),
  (345, Obj.mk (Value.type "function") Option.none (Data.func (FuncData.mk (Str.ofString "_law_value") (Str.ofString "_law_value") (fnA 27) (FuncBody.stmts (fnB 27)) (fnS 27) 3 [] Value.none Value.none Value.none (Value.str (Str.ofString "law_nz0362_01") 575) Option.none (Value.ref 344) Value.none 0)) #[]),
  (346, Obj.mk (Value.type "tuple") Option.none (Data.seq #[]) #[]),
  (349, Obj.mk (Value.type "code") Option.none (Data.fields #[Value.str (Str.ofString "_law_octets") 603, Value.str (Str.ofString "_law_octets") 604, Value.str (Str.ofString "/claim/cut.py") 605, Value.int 206 0, Value.int 2 0, Value.int 0 0, Value.int 0 0, Value.int 3 0, Value.ref 346, Value.bool Bool.true, Value.int 181 0, Value.ref 347, Value.none, Value.none, Value.none, Value.ref 348, Value.int 606 0, Value.int 206 0, Value.str (Str.ofString "/claim/cut.py") 607]) #[]),
  (350, Obj.mk (Value.type "function") Option.none (Data.func (FuncData.mk (Str.ofString "_law_octets") (Str.ofString "_law_octets") (fnA 28) (FuncBody.stmts (fnB 28)) (fnS 28) 3 [] Value.none Value.none Value.none (Value.str (Str.ofString "law_nz0362_01") 575) Option.none (Value.ref 349) Value.none 0)) #[]),
  (351, Obj.mk (Value.type "tuple") Option.none (Data.seq #[]) #[]),
  (353, Obj.mk (Value.type "tuple") Option.none (Data.seq #[Value.str (Str.ofString "sink") 612, Value.str (Str.ofString "kind") 613, Value.str (Str.ofString "value") 614]) #[]),
  (354, Obj.mk (Value.type "tuple") Option.none (Data.seq #[]) #[]),
  (356, Obj.mk (Value.type "code") Option.none (Data.fields #[Value.str (Str.ofString "_law_write") 609, Value.str (Str.ofString "_law_write") 610, Value.str (Str.ofString "/claim/cut.py") 611, Value.int 219 0, Value.int 3 0, Value.int 0 0, Value.int 0 0, Value.int 3 0, Value.ref 351, Value.bool Bool.true, Value.int 181 0, Value.ref 352, Value.none, Value.ref 353, Value.ref 354, Value.ref 355, Value.int 615 0, Value.int 219 0, Value.str (Str.ofString "/claim/cut.py") 616]) #[]),
  (357, Obj.mk (Value.type "function") Option.none (Data.func (FuncData.mk (Str.ofString "_law_write") (Str.ofString "_law_write") (fnA 29) (FuncBody.stmts (fnB 29)) (fnS 29) 3 [] Value.none Value.none Value.none (Value.str (Str.ofString "law_nz0362_01") 575) Option.none (Value.ref 356) Value.none 0)) #[]),
  (358, Obj.mk (Value.type "tuple") Option.none (Data.seq #[]) #[]),
  (360, Obj.mk (Value.type "tuple") Option.none (Data.seq #[Value.str (Str.ofString "n") 621]) #[]),
  (361, Obj.mk (Value.type "tuple") Option.none (Data.seq #[]) #[]),
  (363, Obj.mk (Value.type "code") Option.none (Data.fields #[Value.str (Str.ofString "_law_counted") 618, Value.str (Str.ofString "_law_counted") 619, Value.str (Str.ofString "/claim/cut.py") 620, Value.int 238 0, Value.int 1 0, Value.int 0 0, Value.int 0 0, Value.int 3 0, Value.ref 358, Value.bool Bool.true, Value.int 181 0, Value.ref 359, Value.none, Value.ref 360, Value.ref 361, Value.ref 362, Value.int 622 0, Value.int 238 0, Value.str (Str.ofString "/claim/cut.py") 623]) #[]),
  (364, Obj.mk (Value.type "function") Option.none (Data.func (FuncData.mk (Str.ofString "_law_counted") (Str.ofString "_law_counted") (fnA 30) (FuncBody.stmts (fnB 30)) (fnS 30) 3 [] Value.none Value.none Value.none (Value.str (Str.ofString "law_nz0362_01") 575) Option.none (Value.ref 363) Value.none 0)) #[]),
  (365, Obj.mk (Value.type "tuple") Option.none (Data.seq #[]) #[]),
  (367, Obj.mk (Value.type "tuple") Option.none (Data.seq #[Value.str (Str.ofString "cursor") 628, Value.str (Str.ofString "kind") 629, Value.str (Str.ofString "n") 630]) #[]),
  (368, Obj.mk (Value.type "tuple") Option.none (Data.seq #[]) #[]),
  (370, Obj.mk (Value.type "code") Option.none (Data.fields #[Value.str (Str.ofString "_law_read") 625, Value.str (Str.ofString "_law_read") 626, Value.str (Str.ofString "/claim/cut.py") 627, Value.int 243 0, Value.int 3 0, Value.int 0 0, Value.int 0 0, Value.int 3 0, Value.ref 365, Value.bool Bool.true, Value.int 181 0, Value.ref 366, Value.none, Value.ref 367, Value.ref 368, Value.ref 369, Value.int 631 0, Value.int 243 0, Value.str (Str.ofString "/claim/cut.py") 632]) #[]),
  (371, Obj.mk (Value.type "function") Option.none (Data.func (FuncData.mk (Str.ofString "_law_read") (Str.ofString "_law_read") (fnA 31) (FuncBody.stmts (fnB 31)) (fnS 31) 3 [] Value.none Value.none Value.none (Value.str (Str.ofString "law_nz0362_01") 575) Option.none (Value.ref 370) Value.none 0)) #[]),
  (372, Obj.mk (Value.type "tuple") Option.none (Data.seq #[]) #[]),
  (375, Obj.mk (Value.type "code") Option.none (Data.fields #[Value.str (Str.ofString "_law_number") 634, Value.str (Str.ofString "_law_number") 635, Value.str (Str.ofString "/claim/cut.py") 636, Value.int 262 0, Value.int 3 0, Value.int 0 0, Value.int 0 0, Value.int 3 0, Value.ref 372, Value.bool Bool.true, Value.int 181 0, Value.ref 373, Value.none, Value.none, Value.none, Value.ref 374, Value.int 637 0, Value.int 262 0, Value.str (Str.ofString "/claim/cut.py") 638]) #[]),
  (376, Obj.mk (Value.type "function") Option.none (Data.func (FuncData.mk (Str.ofString "_law_number") (Str.ofString "_law_number") (fnA 32) (FuncBody.stmts (fnB 32)) (fnS 32) 3 [] Value.none Value.none Value.none (Value.str (Str.ofString "law_nz0362_01") 575) Option.none (Value.ref 375) Value.none 0)) #[]),
  (377, Obj.mk (Value.type "tuple") Option.none (Data.seq #[]) #[]),
  (380, Obj.mk (Value.type "code") Option.none (Data.fields #[Value.str (Str.ofString "_law_look") 640, Value.str (Str.ofString "_law_look") 641, Value.str (Str.ofString "/claim/cut.py") 642, Value.int 274 0, Value.int 3 0, Value.int 0 0, Value.int 0 0, Value.int 3 0, Value.ref 377, Value.bool Bool.true, Value.int 181 0, Value.ref 378, Value.none, Value.none, Value.none, Value.ref 379, Value.int 643 0, Value.int 274 0, Value.str (Str.ofString "/claim/cut.py") 644]) #[]),
  (381, Obj.mk (Value.type "function") Option.none (Data.func (FuncData.mk (Str.ofString "_law_look") (Str.ofString "_law_look") (fnA 33) (FuncBody.stmts (fnB 33)) (fnS 33) 3 [] Value.none Value.none Value.none (Value.str (Str.ofString "law_nz0362_01") 575) Option.none (Value.ref 380) Value.none 0)) #[]),
  (382, Obj.mk (Value.type "tuple") Option.none (Data.seq #[]) #[]),
  (384, Obj.mk (Value.type "tuple") Option.none (Data.seq #[Value.str (Str.ofString "kind") 649, Value.str (Str.ofString "value") 650]) #[]),
  (385, Obj.mk (Value.type "tuple") Option.none (Data.seq #[]) #[]),
  (387, Obj.mk (Value.type "code") Option.none (Data.fields #[Value.str (Str.ofString "_law_kind_fits") 646, Value.str (Str.ofString "_law_kind_fits") 647, Value.str (Str.ofString "/claim/cut.py") 648, Value.int 294 0, Value.int 2 0, Value.int 0 0, Value.int 0 0, Value.int 3 0, Value.ref 382, Value.bool Bool.true, Value.int 181 0, Value.ref 383, Value.none, Value.ref 384, Value.ref 385, Value.ref 386, Value.int 651 0, Value.int 294 0, Value.str (Str.ofString "/claim/cut.py") 652]) #[]),
  (388, Obj.mk (Value.type "function") Option.none (Data.func (FuncData.mk (Str.ofString "_law_kind_fits") (Str.ofString "_law_kind_fits") (fnA 34) (FuncBody.stmts (fnB 34)) (fnS 34) 3 [] Value.none Value.none Value.none (Value.str (Str.ofString "law_nz0362_01") 575) Option.none (Value.ref 387) Value.none 0)) #[]),
  (389, Obj.mk (Value.type "tuple") Option.none (Data.seq #[]) #[]),
  (392, Obj.mk (Value.type "code") Option.none (Data.fields #[Value.str (Str.ofString "law") 654, Value.str (Str.ofString "law") 655, Value.str (Str.ofString "/claim/cut.py") 656, Value.int 298 0, Value.int 1 0, Value.int 0 0, Value.int 0 0, Value.int 3 0, Value.ref 389, Value.bool Bool.true, Value.int 181 0, Value.ref 390, Value.none, Value.none, Value.none, Value.ref 391, Value.int 657 0, Value.int 298 0, Value.str (Str.ofString "/claim/cut.py") 658]) #[]),
  (393, Obj.mk (Value.type "function") Option.none (Data.func (FuncData.mk (Str.ofString "law") (Str.ofString "law") (fnA 35) (FuncBody.stmts (fnB 35)) (Scope.mk ScopeKind.function [(Str.ofString "script", NameKind.local), (Str.ofString "nums", NameKind.local), (Str.ofString "a", NameKind.local), (Str.ofString "sink", NameKind.local), (Str.ofString "want", NameKind.local), (Str.ofString "rows", NameKind.local), (Str.ofString "i", NameKind.local), (Str.ofString "y", NameKind.local), (Str.ofString "kind", NameKind.local), (Str.ofString "value", NameKind.local), (Str.ofString "octets", NameKind.local), (Str.ofString "cursor", NameKind.local), (Str.ofString "code", NameKind.local), (Str.ofString "given", NameKind.local), (Str.ofString "start", NameKind.local), (Str.ofString "again", NameKind.local), (Str.ofString "at", NameKind.local), (Str.ofString "short", NameKind.local), (Str.ofString "n", NameKind.local), (Str.ofString "size", NameKind.local), (Str.ofString "told", NameKind.local), (Str.ofString "whole", NameKind.local), (Str.ofString "len", NameKind.globalImplicit), (Str.ofString "_law_draw", NameKind.globalImplicit), (Str.ofString "Sink", NameKind.globalImplicit), (Str.ofString "range", NameKind.globalImplicit), (Str.ofString "_law_value", NameKind.globalImplicit), (Str.ofString "_law_octets", NameKind.globalImplicit), (Str.ofString "_law_counted", NameKind.globalImplicit), (Str.ofString "_law_write", NameKind.globalImplicit), (Str.ofString "Cursor", NameKind.globalImplicit), (Str.ofString "bytearray", NameKind.globalImplicit), (Str.ofString "_law_read", NameKind.globalImplicit), (Str.ofString "_law_kind_fits", NameKind.globalImplicit), (Str.ofString "_law_look", NameKind.globalImplicit), (Str.ofString "Corrupt", NameKind.globalImplicit)] Bool.false Bool.false [(Str.ofString "fast", Const.str (Str.ofString "script")), (Str.ofString "fast", Const.str (Str.ofString "x")), (Str.ofString "fast", Const.str (Str.ofString "nums")), (Str.ofString "fast", Const.str (Str.ofString "a")), (Str.ofString "fast", Const.str (Str.ofString "sink")), (Str.ofString "fast", Const.str (Str.ofString "want")), (Str.ofString "fast", Const.str (Str.ofString "rows")), (Str.ofString "fast", Const.str (Str.ofString "i")), (Str.ofString "fast", Const.str (Str.ofString "y")), (Str.ofString "fast", Const.str (Str.ofString "kind")), (Str.ofString "fast", Const.str (Str.ofString "value")), (Str.ofString "fast", Const.str (Str.ofString "octets")), (Str.ofString "fast", Const.str (Str.ofString "cursor")), (Str.ofString "fast", Const.str (Str.ofString "code")), (Str.ofString "fast", Const.str (Str.ofString "given")), (Str.ofString "fast", Const.str (Str.ofString "start")), (Str.ofString "fast", Const.str (Str.ofString "again")), (Str.ofString "fast", Const.str (Str.ofString "at")), (Str.ofString "fast", Const.str (Str.ofString "short")), (Str.ofString "fast", Const.str (Str.ofString "n")), (Str.ofString "fast", Const.str (Str.ofString "size")), (Str.ofString "fast", Const.str (Str.ofString "told")), (Str.ofString "fast", Const.str (Str.ofString "whole"))]) 3 [] Value.none Value.none Value.none (Value.str (Str.ofString "law_nz0362_01") 575) Option.none (Value.ref 392) Value.none 0)) #[])]
def KA : List Addr := [2, 3, 15, 22, 23, 24, 25, 28, 35, 36, 37, 40, 47, 48, 49, 52, 59, 60, 61, 64, 71, 72, 73, 76, 78, 79, 81, 82, 83, 85, 86, 88, 89, 90, 92, 93, 95, 96, 97, 99, 100, 102, 103, 104, 106, 107, 109, 110, 111, 113, 114, 116, 117, 118, 120, 121, 123, 124, 125, 127, 128, 130, 131, 132, 134, 135, 137, 138, 139, 141, 142, 144, 145, 146, 148, 149, 151, 152, 153, 155, 156, 158, 159, 167, 168, 170, 171, 173, 174, 175, 177, 178, 180, 181, 182, 184, 185, 187, 188, 189, 191, 192, 194, 195, 196, 198, 199, 201, 202, 203, 205, 206, 208, 209, 210, 212, 213, 215, 216, 217, 219, 220, 222, 223, 224, 226, 227, 229, 230, 231, 233, 234, 236, 237, 238, 239, 240, 241, 242, 252, 254, 255, 257, 258, 259, 261, 262, 264, 265, 266, 268, 269, 271, 272, 273, 275, 276, 278, 279, 280, 282, 283, 285, 286, 287, 289, 290, 292, 293, 294, 296, 297, 299, 300, 301, 303, 304, 306, 307, 308, 310, 311, 313, 314, 315, 316, 317, 318, 319, 322, 324, 325, 327, 328, 329, 331, 332, 334, 335, 336, 339, 340, 341, 344, 345, 346, 349, 350, 351, 353, 354, 356, 357, 358, 360, 361, 363, 364, 365, 367, 368, 370, 371, 372, 375, 376, 377, 380, 381, 382, 384, 385, 387, 388, 389, 392, 393]
end Mine

end
section
set_option maxRecDepth 100000
open PySem PySem.W PySem.Calls PyProof.Rows
set_option Elab.async false
set_option linter.unusedVariables false
namespace Mine
/-! ## The top, run over a tree of objects, once -/
def topT (tb : String → Option Builtin) (p : Program) (w : World) (n₀ : Nat) (ann : Option Value) : Nat → SharedT → Thread → Option SharedT
  | 0, _, _ => none
  | n + 1, s, t => match through t with
    | true => some s
    | false => match stepOk n₀ ann t with
      | false => none
      | true => match stepT (denote tb) p w s t with
        | some (s', t') => topT tb p w n₀ ann n s' t'
        | none => none
theorem topT_run {tb : String → Option Builtin} {p : Program} {w : World} {n₀ : Nat} {ann : Option Value} : ∀ {n : Nat} {s s' : SharedT} {t : Thread}, topT tb p w n₀ ann n s t = some s' → topRun tb p w n₀ ann n s.abs t = some s'.abs
  | 0, _, _, _, h => by cases h
  | n + 1, s, s', t, h => by
    unfold topT at h
    unfold topRun
    cases he : through t with
    | true => rw [he] at h; cases h; rfl
    | false =>
      rw [he] at h
      cases hk : stepOk n₀ ann t with
      | false => rw [hk] at h; cases h
      | true =>
        rw [hk] at h
        cases hs : stepT (denote tb) p w s t with
        | none => rw [hs] at h; cases h
        | some r => obtain ⟨s₂, t₂⟩ := r; rw [hs] at h; rw [stepT_spec hs]; exact topT_run h
noncomputable def bootT (P : Params) : BT := ((boot_heap P).objs.toList.foldl (fun (x : BT × Nat) o => (x.1.ins x.2 o, x.2 + 1)) (.nil, 0)).1
theorem boot_abs (P : Params) : absHeap (bootT P) 11 (boot_heap P).life = boot_heap P := by kernel_rfl
def qv : Program := view pw [1, 2, 3, 4, 5, 7, 8, 9, 10, 11, 12, 13, 14, 15, 16, 17, 18, 19, 20, 21, 22, 24, 25, 26, 27, 28, 29, 30, 31, 32, 33, 34, 35]
noncomputable abbrev HK : Hook := kHook KK KA (fun _ => by kernel_rfl)
abbrev rr : OpenRow := PySem.Challenge.rw_nz0362_01.row
abbrev XT (s : Shared) : Bool := xlAt qv [] s && recOk (RowW.records rr.toRowW) s
/-- the top's run -/
noncomputable abbrev topRan (w : World) (os : OsState) : Option SharedT := topT treeTable rr.prog w 11 (some (.ref 6)) 5804 ⟨bootT w.params, 11, (boot_heap w.params).life, Array.mk [], boot_drawn, boot_toks, os⟩ (topStub rr.prog)
theorem top_all : ∀ (w : World) (os : OsState), (topRan w os).map (fun s => ((staticsOk (importedModules rr.prog.main.body) (boot_heap w.params) s.abs.heap && namesBound rr.prog s.abs.heap && gensDone s.abs && laidKept (boot_heap w.params) s.abs.heap), openSeen qv [] (importedModules rr.prog.main.body) XT true s.abs, HK.obs s.abs)) = some (true, openGood qv [], HK.val w) := by
  intro w os
  kernel_rfl
theorem open_boot : ∀ w : World, (fencedOpening treeTable rr.prog w 5804).map (fun s => (s.heap, s.gens, s.drawn, s.toks)) = some (boot_heap w.params, Array.mk [], boot_drawn, boot_toks) :=
  boot_open (by kernel_rfl) (by decide) (fun s => by kernel_rfl)
theorem boot_size (P : Params) : ((boot_heap P).isNs mainGlobals && (Array.mk ([] : List GenState)).size == 0, (boot_heap P).objs.size, (boot_heap P).nsMap mainGlobals "__annotations__") = (true, 11, some (.ref 6)) := by kernel_rfl
theorem left_of {p q : Program} {Xt : Shared → Bool} {α : Type} {Yf : Shared → α} {Ya : World → α} {N m₀ : Nat} {ann : Option Value} {H₀ : Params → Heap} {T₀ : Params → BT} {gs₀ : Array GenState} {d₀ : Drawn} {k₀ : Nat}
    (open_ : ∀ w : World, (fencedOpening treeTable p w N).map (fun s => (s.heap, s.gens, s.drawn, s.toks)) = some (H₀ w.params, gs₀, d₀, k₀))
    (size : ∀ P : Params, ((H₀ P).isNs mainGlobals && gs₀.size == 0, (H₀ P).objs.size, (H₀ P).nsMap mainGlobals "__annotations__") = (true, m₀, ann)) (abs : ∀ P, absHeap (T₀ P) m₀ (H₀ P).life = H₀ P)
    (h : ∀ (w : World) (os : OsState), (topT treeTable p w m₀ ann N ⟨T₀ w.params, m₀, (H₀ w.params).life, gs₀, d₀, k₀, os⟩ (topStub p)).map (fun s => ((staticsOk (importedModules p.main.body) (H₀ w.params) s.abs.heap && namesBound p s.abs.heap && gensDone s.abs && laidKept (H₀ w.params) s.abs.heap), openSeen q [] (importedModules p.main.body) Xt true s.abs, Yf s.abs)) = some (true, openGood q [], Ya w)) : LeftO p q [] Xt Yf Ya N := fun w => by
  obtain ⟨⟨h, gs, d, k, os⟩, e, e'⟩ := Option.map_eq_some_iff.mp (open_ w)
  obtain ⟨rfl, rfl, rfl, rfl⟩ : h = H₀ w.params ∧ gs = gs₀ ∧ d = d₀ ∧ k = k₀ := by simpa using e'
  obtain ⟨z1, z2, z3⟩ : _ ∧ _ ∧ _ := by simpa only [Prod.mk.injEq] using size w.params
  obtain ⟨r, hr, l⟩ := Option.map_eq_some_iff.mp (h w os)
  obtain ⟨l1, l2, l3⟩ : _ ∧ _ ∧ _ := by simpa only [Prod.mk.injEq] using l
  have run := topT_run hr
  have e1 : (SharedT.abs ⟨T₀ w.params, m₀, (H₀ w.params).life, gs, d, k, os⟩) = ⟨H₀ w.params, gs, d, k, os⟩ := by
    show Shared.mk (absHeap _ _ _) _ _ _ _ = _
    rw [abs]
  rw [e1] at run
  have t : topFrom treeTable p w N ⟨H₀ w.params, gs, d, k, os⟩ = some r.abs := by
    unfold topFrom
    dsimp only
    rw [z1, z2, z3, run]
    show (match staticsOk (importedModules p.main.body) (H₀ w.params) r.abs.heap && namesBound p r.abs.heap && gensDone r.abs && laidKept (H₀ w.params) r.abs.heap with | true => _ | false => _) = _
    rw [l1]
  unfold openEnds
  rw [e]
  show (topFrom treeTable p w N _).map _ = _
  rw [t]
  exact congrArg some (Prod.ext l2 l3)
theorem left : LeftO rr.prog qv [] XT HK.obs HK.val 5804 := left_of open_boot boot_size boot_abs top_all
end Mine

end
section
set_option maxRecDepth 100000
open PySem PySem.W PySem.Calls PyProof.Rows
set_option Elab.async false
set_option linter.unusedVariables false
namespace Mine
def lawRec : DefRec := ⟨"law", fnA 35, fnB 35, fnS 35, ⟨298, 0, 359, 41⟩⟩
abbrev ll : OpenLaw := PySem.Challenge.rw_nz0362_01
theorem lo0 : (sreFenced pw.main) = true := by kernel_rfl
theorem lo1 : (((moduleNames pw.main.body).isEmpty || lookedIntoSs (moduleNames pw.main.body) pw.main.body)) = true := by kernel_rfl
theorem lo2 : (namesResolve pw) = true := by kernel_rfl
theorem lo3 : (pw.boundNames.all (fun n => !worldNames.contains n)) = true := by kernel_rfl
theorem lo4 : (noRoadLSs { strict := !(importedModules pw.main.body).all cThrough.contains, foot := none, bare := (["vars", "dir", "locals"] : List Str).filter (readsOut pw pw.main.body) } pw.main.body) = true := by kernel_rfl
theorem lo5 : (namesMeet pw pw.main.body (fun _ n => attrL n)) = true := by kernel_rfl
theorem law_looks : looksOpen pw = true := by
  unfold looksOpen
  refine Bool.and_eq_true_iff.mpr ⟨?_, lo5⟩
  refine Bool.and_eq_true_iff.mpr ⟨?_, lo4⟩
  refine Bool.and_eq_true_iff.mpr ⟨?_, lo3⟩
  refine Bool.and_eq_true_iff.mpr ⟨?_, lo2⟩
  refine Bool.and_eq_true_iff.mpr ⟨?_, lo1⟩
  exact lo0
theorem lr0 : (rr.loose.isEmpty) = true := by kernel_rfl
theorem lr1 : (rr.makers.isEmpty) = true := by kernel_rfl
theorem lr2 : ((rr.records.isEmpty || rr.raises.all fun ct => ct.1 != .builtin "AttributeError" && ct.1 != .builtin "TypeError")) = true := by kernel_rfl
theorem lr3 : ((rr.raises.all fun ct => match ct.1 with | .builtin n => !rr.prog.boundNames.contains (Str.ofString n) && !ofTheWorld.contains n | .own _ => true)) = true := by kernel_rfl
theorem lr4 : (decide (rr.records.map (·.1)).Nodup) = true := by kernel_rfl
theorem lr5 : ((rr.records.all fun x => !x.1.opensWith "__" && !builtinNamed x.1 && rr.prog.boundNames.contains x.1 && x.2.all fun f => !f.1.opensWith "__")) = true := by kernel_rfl
theorem lr6 : (rr.toRowW.solid) = true := by kernel_rfl
theorem lr7 : (rr.pre.litsOk) = true := by kernel_rfl
theorem lr8 : (rr.post.litsOk) = true := by kernel_rfl
theorem lr9 : (rr.raises.all (·.2.litsOk)) = true := by kernel_rfl
theorem lr10 : (rr.mutates.all (fun i => match rr.args[i]? with | some sh => !sh.arms.any WShape.isObj | none => false)) = true := by kernel_rfl
theorem lr11 : (rr.within.all (fun i => decide (i < rr.args.length))) = true := by kernel_rfl
theorem lr12 : (rr.same.all (fun i => decide (i < rr.args.length))) = true := by kernel_rfl
theorem law_part : rr.partSaid = true := by
  unfold OpenRow.partSaid
  refine Bool.and_eq_true_iff.mpr ⟨?_, lr12⟩
  refine Bool.and_eq_true_iff.mpr ⟨?_, lr11⟩
  refine Bool.and_eq_true_iff.mpr ⟨?_, lr10⟩
  refine Bool.and_eq_true_iff.mpr ⟨?_, lr9⟩
  refine Bool.and_eq_true_iff.mpr ⟨?_, lr8⟩
  refine Bool.and_eq_true_iff.mpr ⟨?_, lr7⟩
  refine Bool.and_eq_true_iff.mpr ⟨?_, lr6⟩
  refine Bool.and_eq_true_iff.mpr ⟨?_, lr5⟩
  refine Bool.and_eq_true_iff.mpr ⟨?_, lr4⟩
  refine Bool.and_eq_true_iff.mpr ⟨?_, lr3⟩
  refine Bool.and_eq_true_iff.mpr ⟨?_, lr2⟩
  refine Bool.and_eq_true_iff.mpr ⟨?_, lr1⟩
  refine Bool.and_eq_true_iff.mpr ⟨?_, lr0⟩
  exact law_looks
theorem law_b : rr.prog.boundNames.contains rr.name = true := by kernel_rfl
theorem law_s : (!startupNames.contains rr.name) = true := by kernel_rfl
theorem law_row : rr.wellSaid = true := by
  unfold OpenRow.wellSaid
  refine Bool.and_eq_true_iff.mpr ⟨?_, law_s⟩
  refine Bool.and_eq_true_iff.mpr ⟨?_, law_b⟩
  exact law_part
theorem ls0 : (decide (ll.foot ≤ (behindTheImports ll.prog).length)) = true := by kernel_rfl
theorem ls1 : (ll.footing.all footLine) = true := by kernel_rfl
theorem ls2 : (noClassBlock ll.prog ll.footing) = true := by kernel_rfl
theorem ls3 : (ll.most.all (fun n => decide (63 ≤ n))) = true := by kernel_rfl
theorem ls4 : (ll.bound.all (fun n => decide (2 ^ 63 ≤ n))) = true := by kernel_rfl
theorem ls5 : (noRoadLSs { strict := true, foot := some ll.bound', writes := ll.writes, may := ll.may } ll.footing) = true := by kernel_rfl
theorem ls6 : (defStands ll.about ll.above) = true := by kernel_rfl
theorem ls7 : (ll.namesIt) = true := by kernel_rfl
theorem ls8 : ((["type", "isinstance", "issubclass", "getattr", "hasattr"] : List Str).all (fun n => ll.about != [n])) = true := by kernel_rfl
theorem ls9 : (ll.bound'.all (fun n => !builtinNamed n || ll.about == [n] || !ll.reads n)) = true := by kernel_rfl
theorem ls10 : ((!ll.writes || (ll.prog.main.body.flatMap importedNames).all fun n => !ll.reads n)) = true := by kernel_rfl
theorem ls11 : ((ll.prog.main.body.flatMap importedNames).all (fun n => !ll.reads n || (drawsOf n ll.prog.main.body).all fun mn => mn.2 != ("attrgetter" : Str) && mn.2 != ("methodcaller" : Str))) = true := by kernel_rfl
theorem ls12 : (namesMeet ll.prog ll.footing (fun sc n => (!(["type", "isinstance", "issubclass", "getattr", "hasattr"] : List Str).contains n || sc.names.lookup n == some .globalImplicit) && (ll.may != some n || sc.kind == .module || sc.names.lookup n == some .globalImplicit))) = true := by kernel_rfl
theorem ls13 : (ll.own.contains ll.name) = true := by kernel_rfl
theorem ls14 : (ll.own.eraseDups.length == ll.own.length) = true := by kernel_rfl
theorem ls15 : (ll.own.all (fun n => !builtinNamed n)) = true := by kernel_rfl
theorem ls16 : (namesMeet ll.prog ll.above (fun _ n => !ll.own.contains n)) = true := by kernel_rfl
theorem ls17 : (namesMeet ll.prog ll.footing (fun sc n => sc.kind == .module || sc.names.lookup n != some .globalExplicit)) = true := by kernel_rfl
theorem law_said : PySem.Challenge.rw_nz0362_01.wellSaid = true := by
  unfold OpenLaw.wellSaid
  refine Bool.and_eq_true_iff.mpr ⟨?_, ls17⟩
  refine Bool.and_eq_true_iff.mpr ⟨?_, ls16⟩
  refine Bool.and_eq_true_iff.mpr ⟨?_, ls15⟩
  refine Bool.and_eq_true_iff.mpr ⟨?_, ls14⟩
  refine Bool.and_eq_true_iff.mpr ⟨?_, ls13⟩
  refine Bool.and_eq_true_iff.mpr ⟨?_, ls12⟩
  refine Bool.and_eq_true_iff.mpr ⟨?_, ls11⟩
  refine Bool.and_eq_true_iff.mpr ⟨?_, ls10⟩
  refine Bool.and_eq_true_iff.mpr ⟨?_, ls9⟩
  refine Bool.and_eq_true_iff.mpr ⟨?_, ls8⟩
  refine Bool.and_eq_true_iff.mpr ⟨?_, ls7⟩
  refine Bool.and_eq_true_iff.mpr ⟨?_, ls6⟩
  refine Bool.and_eq_true_iff.mpr ⟨?_, ls5⟩
  refine Bool.and_eq_true_iff.mpr ⟨?_, ls4⟩
  refine Bool.and_eq_true_iff.mpr ⟨?_, ls3⟩
  refine Bool.and_eq_true_iff.mpr ⟨?_, ls2⟩
  refine Bool.and_eq_true_iff.mpr ⟨?_, ls1⟩
  refine Bool.and_eq_true_iff.mpr ⟨?_, ls0⟩
  exact law_row
theorem law_promised : rr.toRowW.promised := by w_witness2
theorem law_chains : (chainsOk qv && opensWell rr.prog && (frees rr.toRowW && rr.toRowW.within.isEmpty)) = true := by decide +kernel
theorem law_bare : rr.prog.bare := ⟨rfl, rfl, rfl, rfl, rfl, by decide +kernel⟩
theorem law_rec : defOf qv rr.name = some (lawRec, []) := by kernel_rfl
theorem law_def : rr.prog.theDef rr.name = some (lawRec.params, lawRec.body, lawRec.scope) := by kernel_rfl
theorem hd (call : WalkP qv [] (XL qv []) HK.says rr.toRowW lawRec []) : PySem.Challenge.rw_nz0362_01.Holds :=
  holds_law law_said fun said => PySem.W.holds_open (r := rr) (q := qv) (loose := []) (Xt := XT) (XP := XL qv []) (Yf := HK.obs) (Ya := HK.val) (YP := HK.says) (N := 5804) left (Hook.of HK) (Hook.keeps HK)
    (fun s e => xl_of s (Bool.and_eq_true_iff.mp e).1) XL.keeps law_rec law_def (by kernel_rfl) (fun s e => recFacts_of (Bool.and_eq_true_iff.mp e).2) rfl said law_chains law_bare law_promised call
end Mine

end
section
open PySem PySem.W PySem.Calls PyProof.Rows
open Sem (wp)
set_option Elab.async false
namespace Mine

/-! ## The state of a walk -/
structure Wd where
  prog : Program
  w : World
  K : Frag
  p : Program
  loose : List Str
abbrev Wd.M (W : Wd) : Model := model W.prog W.w

/-- one activation: what must stay as it is, the frame's address, the callers' frames, the stack of environments -/
structure Act where
  g : Heap
  L : Addr
  fs : List (Addr × Obj)
  envs : List Env

inductive At {α : Type} : List α → Nat → α → Prop
  | head {x xs} : At (x :: xs) 0 x
  | tail {x y xs i} : At xs i x → At (y :: xs) (i + 1) x
theorem At.get {α : Type} {xs : List α} {i : Nat} {x : α} (h : At xs i x) : xs[i]? = some x := by
  induction h with
  | head => rfl
  | tail _ ih => simpa using ih
theorem At.mem {α : Type} {xs : List α} {i : Nat} {x : α} (h : At xs i x) : x ∈ xs := List.mem_of_getElem? h.get

structure Act.OK (W : Wd) (a : Act) (xs : List Str) : Prop where
  X : W.K.In a.g
  T : ∃ mg mb, TopRead W.p W.loose mg mb a.g
  nd : xs.Nodup
  fr : a.envs.map (·.frame) = (a.L :: a.fs.map (·.1)).map some
  kd : ∀ e ∈ a.envs, e.scope.kind = .function
  dict : ∀ q ∈ a.fs, ∃ es n, q.2.data = .dict es n
  new : ∀ q ∈ a.fs, a.g.get? q.1 = none ∧ q.1 ≠ a.L

structure St (W : Wd) (a : Act) (xs : List Str) (ρ : List (Option Value)) (led : List (Addr × Obj)) (h : Heap) : Prop where
  ok : a.OK W xs
  vars : ∃ m, Fr a.g a.L h m ∧ ∀ (i : Nat) (x : Str) (v : Value), xs[i]? = some x → ρ[i]? = some (some v) → m x = some v
  news : News a.g a.L h led
  frms : ∀ q ∈ a.fs, ∃ sl, h.get? q.1 = some { q.2 with slots := sl }
  apart : ∀ q ∈ a.fs, ∀ p ∈ led, p.1 ≠ q.1

structure AOK (A : Around) (a : Act) (n : Nat) : Prop where
  fr : A.frames = some a.envs
  hd : A.handled = none
  dp : A.depth + n ≤ 900
  un : A.units + 20 * n ≤ 9000
theorem AOK.le {A : Around} {a : Act} {n m : Nat} (h : AOK A a n) (e : m ≤ n := by omega) : AOK A a m := ⟨h.fr, h.hd, by have := h.dp; omega, by have := h.un; omega⟩
theorem AOK.room {A : Around} {a : Act} {n : Nat} (h : AOK A a n) : A.depth < recursionLimit := by have := h.dp; show A.depth < 1000; omega
theorem AOK.units {A : Around} {a : Act} {n : Nat} (h : AOK A a n) : A.units < cLine := by have := h.un; show A.units < 9900; omega

section
variable {W : Wd} {a : Act} {xs : List Str} {ρ : List (Option Value)} {led : List (Addr × Obj)} {h : Heap}

theorem St.X (S : St W a xs ρ led h) : W.K.In h := let ⟨_, F, _⟩ := S.vars; S.ok.X.keeps F.keep
theorem St.weak {ρ' : List (Option Value)} {led' : List (Addr × Obj)} (S : St W a xs ρ led h) (hr : ∀ (i : Nat) (v : Value), ρ'[i]? = some (some v) → ρ[i]? = some (some v)) (hl : ∀ p ∈ led', p ∈ led) : St W a xs ρ' led' h :=
  ⟨S.ok, let ⟨m, F, hm⟩ := S.vars; ⟨m, F, fun i x v h1 h2 => hm i x v h1 (hr i v h2)⟩, fun p hp => S.news p (hl p hp), S.frms, fun q hq p hp => S.apart q hq p (hl p hp)⟩
theorem St.onLed {led' : List (Addr × Obj)} (S : St W a xs ρ led h) (hl : ∀ p ∈ led', p ∈ led) : St W a xs ρ led' h := S.weak (fun _ _ e => e) hl
theorem St.get {x : Addr} {o : Obj} (S : St W a xs ρ led h) (m : (x, o) ∈ led) : h.get? x = some o := (S.news _ m).1
theorem St.ne {x y : Addr} {o o' : Obj} (S : St W a xs ρ led h) (m : (x, o) ∈ led) (m' : (y, o') ∈ led) (n : o ≠ o') : x ≠ y := fun e => by
  subst e; exact n (Option.some.inj ((S.get m).symm.trans (S.get m')))
theorem ne_of_data {o o' : Obj} (h : o.data ≠ o'.data) : o ≠ o' := fun e => h (e ▸ rfl)
theorem ne_of_cls {o o' : Obj} (h : o.cls ≠ o'.cls) : o ≠ o' := fun e => h (e ▸ rfl)

/-- the frames as they are now -/
theorem St.frames (S : St W a xs ρ led h) : ∃ fn : List (Addr × Obj), fn.map (·.1) = a.fs.map (·.1) ∧ News a.g a.L h fn ∧
    (∀ q ∈ a.fs, ∃ sl, (q.1, ({ q.2 with slots := sl } : Obj)) ∈ fn) ∧ ∀ q ∈ fn, ∃ q' ∈ a.fs, q.1 = q'.1 ∧ ∃ sl, q.2 = { q'.2 with slots := sl } := by
  have key : ∀ l : List (Addr × Obj), (∀ q ∈ l, ∃ sl, h.get? q.1 = some { q.2 with slots := sl }) → (∀ q ∈ l, a.g.get? q.1 = none ∧ q.1 ≠ a.L) →
      ∃ fn : List (Addr × Obj), fn.map (·.1) = l.map (·.1) ∧ News a.g a.L h fn ∧ (∀ q ∈ l, ∃ sl, (q.1, ({ q.2 with slots := sl } : Obj)) ∈ fn) ∧ ∀ q ∈ fn, ∃ q' ∈ l, q.1 = q'.1 ∧ ∃ sl, q.2 = { q'.2 with slots := sl } := by
    intro l
    induction l with
    | nil => intro _ _; exact ⟨[], rfl, News.nil, fun q hq => (nomatch hq), fun q hq => (nomatch hq)⟩
    | cons q r ih =>
      intro h1 h2
      obtain ⟨sl, hs⟩ := h1 q (.head _)
      obtain ⟨fn, e1, e2, e3, e4⟩ := ih (fun q hq => h1 q (.tail _ hq)) fun q hq => h2 q (.tail _ hq)
      have z := h2 q (.head _)
      refine ⟨(q.1, { q.2 with slots := sl }) :: fn, by simp [e1], fun p hp => ?_, fun q' hq => ?_, fun q' hq => ?_⟩
      · rcases List.mem_cons.mp hp with rfl | hp
        · exact ⟨hs, z.2, z.1⟩
        · exact e2 p hp
      · rcases List.mem_cons.mp hq with rfl | hq
        · exact ⟨sl, .head _⟩
        · obtain ⟨s', m⟩ := e3 q' hq; exact ⟨s', .tail _ m⟩
      · rcases List.mem_cons.mp hq with rfl | hq
        · exact ⟨q, .head _, rfl, sl, rfl⟩
        · obtain ⟨q'', m, r⟩ := e4 q' hq; exact ⟨q'', .tail _ m, r⟩
  exact key a.fs S.frms S.ok.new

/-- a state made again from what the kit's rules hand on -/
theorem St.again {ρ' : List (Option Value)} {led' : List (Addr × Obj)} {h' : Heap} {m : Str → Option Value} {fn : List (Addr × Obj)} (S : St W a xs ρ led h) (F : Fr a.g a.L h' m)
    (hm : ∀ (i : Nat) (x : Str) (v : Value), xs[i]? = some x → ρ'[i]? = some (some v) → m x = some v) (N : News a.g a.L h' led') (e : ∀ q ∈ a.fs, ∃ sl, (q.1, ({ q.2 with slots := sl } : Obj)) ∈ fn) (Nf : News a.g a.L h' fn)
    (ap : ∀ q ∈ a.fs, ∀ p ∈ led', p.1 ≠ q.1) : St W a xs ρ' led' h' :=
  ⟨S.ok, ⟨m, F, hm⟩, N, fun q hq => let ⟨sl, hs⟩ := e q hq; ⟨sl, (Nf _ hs).1⟩, ap⟩

theorem St.frame_lt (S : St W a xs ρ led h) {q : Addr × Obj} (hq : q ∈ a.fs) : q.1 < h.objs.size := let ⟨_, e⟩ := S.frms q hq; Heap.lt_size e
theorem St.led_lt (S : St W a xs ρ led h) {q : Addr × Obj} (hq : q ∈ led) : q.1 < h.objs.size := Heap.lt_size (S.news q hq).1

/-- a new object -/
theorem St.push (S : St W a xs ρ led h) (o : Obj) (hf : o.isFreed = false := by rfl) : St W a xs ρ ((h.objs.size, o) :: led) (h.push o) := by
  obtain ⟨m, F, hm⟩ := S.vars
  refine ⟨S.ok, ⟨m, F.push o, hm⟩, News.push F S.news o hf, fun q hq => ?_, fun q hq p hp => ?_⟩
  · obtain ⟨sl, e⟩ := S.frms q hq
    exact ⟨sl, Heap.get?_push_of_some _ e⟩
  · rcases List.mem_cons.mp hp with rfl | hp
    · exact Nat.ne_of_gt (S.frame_lt hq)
    · exact S.apart q hq p hp
theorem St.fresh (S : St W a xs ρ led h) {x : Addr} {o : Obj} (m : (x, o) ∈ led) : x ≠ h.objs.size := Nat.ne_of_lt (S.led_lt m)

/-- one object of the ledger turned -/
def updL (d : Addr) (o' : Obj) (l : List (Addr × Obj)) : List (Addr × Obj) := l.map fun p => if p.1 = d then (d, o') else p
theorem updL_self {d : Addr} {o o' : Obj} {l : List (Addr × Obj)} (m : (d, o) ∈ l) : (d, o') ∈ updL d o' l := List.mem_map.mpr ⟨(d, o), m, by simp⟩
theorem updL_ne {d x : Addr} {o o' : Obj} {l : List (Addr × Obj)} (m : (x, o) ∈ l) (n : x ≠ d) : (x, o) ∈ updL d o' l := List.mem_map.mpr ⟨(x, o), m, by simp [n]⟩
theorem mem_updL {d : Addr} {o' : Obj} {l : List (Addr × Obj)} {p : Addr × Obj} (m : p ∈ updL d o' l) : p = (d, o') ∨ (p ∈ l ∧ p.1 ≠ d) := by
  obtain ⟨q, hq, e⟩ := List.mem_map.mp m
  split at e
  · exact .inl e.symm
  · rename_i n; subst e; exact .inr ⟨hq, n⟩
theorem St.update {d : Addr} {o : Obj} (S : St W a xs ρ led h) (md : (d, o) ∈ led) (f : Obj → Obj) (hf : (f o).isFreed = false) : St W a xs ρ (updL d (f o) led) (h.update d f) := by
  obtain ⟨m, F, hm⟩ := S.vars
  have D := S.news _ md
  have other : ∀ b, b ≠ d → (h.update d f).get? b = h.get? b := fun b n => Heap.get?_update_other _ _ (Ne.symm n)
  obtain ⟨oL, es, ep, hL, r⟩ := F.ns
  refine ⟨S.ok, ⟨m, ⟨⟨oL, es, ep, (other _ (Ne.symm D.2.1)).trans hL, r⟩, fun b x q => (other b fun z => ?_).trans (F.keep b x q), F.above⟩, hm⟩, fun p hp => ?_, fun q hq => ?_, fun q hq p hp => ?_⟩
  · have := D.2.2; rw [← z, q] at this; cases this
  · rcases mem_updL hp with rfl | ⟨hp, n⟩
    · exact ⟨Heap.get?_update_self _ D.1 hf, D.2⟩
    · exact ⟨(other _ n).trans (S.news p hp).1, (S.news p hp).2⟩
  · obtain ⟨sl, e⟩ := S.frms q hq
    exact ⟨sl, (other _ (Ne.symm (S.apart q hq _ md))).trans e⟩
  · rcases mem_updL hp with rfl | ⟨hp, n⟩
    · exact S.apart q hq (d, o) md
    · exact S.apart q hq p hp

/-- a name stored -/
theorem St.store {h' : Heap} {i : Nat} {x : Str} {v : Value} (S : St W a xs ρ led h) (hx : At xs i x) (hn : ∀ m, h.Ns a.L m → h'.Ns a.L (fun y => if y = x then some v else m y)) (hs : Heap.SameBut a.L h h') :
    St W a xs (ρ.set i (some v)) led h' := by
  obtain ⟨m, F, hm⟩ := S.vars
  refine ⟨S.ok, ⟨_, F.set (hn m F.ns) hs, fun j y u h1 h2 => ?_⟩, S.news.set hs, fun q hq => ?_, S.apart⟩
  · by_cases e : y = x
    · subst e
      have : i = j := by
        have nd := S.ok.nd
        have h3 := hx.get
        obtain ⟨hi, e1⟩ := List.getElem?_eq_some_iff.mp h3
        obtain ⟨hj, e2⟩ := List.getElem?_eq_some_iff.mp h1
        exact (List.getElem_inj nd).mp (e1.trans e2.symm)
      subst this
      rw [if_pos rfl]
      have hlt : i < ρ.length := by
        rcases Nat.lt_or_ge i ρ.length with z | z
        · exact z
        · rw [List.set_eq_of_length_le z, List.getElem?_eq_none z] at h2; cases h2
      rw [List.getElem?_set_self hlt] at h2
      exact Option.some.inj h2
    · rw [if_neg e]
      have n : i ≠ j := fun z => by subst z; exact e (Option.some.inj (h1.symm.trans hx.get))
      rw [List.getElem?_set_ne n] at h2
      exact hm j y u h1 h2
  · obtain ⟨sl, e⟩ := S.frms q hq
    exact ⟨sl, (hs.2 _ (S.ok.new q hq).2).trans e⟩
end
end Mine

end
section
open PySem PySem.W PySem.Calls PyProof.Rows
open Sem (wp)
set_option Elab.async false
namespace Mine

/-! ## Statements -/
section
variable {M : Model} {A : Around} {E : Value → Shared → Prop} {s : Shared} {env : Env}

theorem execs_nilP {Q : Flow → Shared → Prop} (h : Q .next s) : wpP M A (execs [] env) Q E s := ⟨fun _ _ _ _ => h⟩
def Then (M : Model) (A : Around) (rest : List Stmt) (env : Env) (Q : Flow → Shared → Prop) (E : Value → Shared → Prop) (f : Flow) (s : Shared) : Prop :=
  match f with | .next => wpP M A (execs rest env) Q E s | f => Q f s
theorem execs_consP {st rest} {Q : Flow → Shared → Prop} (h : wpP M A (exec st env) (Then M A rest env Q E) E s) :
    wpP M A (execs (st :: rest) env) Q E s := .mk fun Γ p hΓ hc => by
  rw [execs_cons, Sem.wp_bind']
  refine Sem.wp_mono M Γ _ (fun f p' s' h' => ?_) (fun _ _ _ h' => h') _ _ (h.go Γ p hΓ hc)
  cases f <;> first | exact h'.go Γ p' hΓ hc | exact h'
theorem ExprP {e pos} {Q : Flow → Shared → Prop} (h : wpP M A (eval e env) (fun v s' => match v with | .ref _ => False | _ => Q .next s') E s)
    (hi : interactive env = false := by rfl) (hs : swapsWith e none pos.line env = pure false := by rfl) :
    wpP M A (exec (.Expr e pos) env) Q E s := by
  rw [exec_Expr env e pos hi hs]
  refine bindP (atP (bindP (monoP h (fun v s' h' => ?_) fun _ _ x => x)))
  have hv : ∀ a, v ≠ .ref a := fun a hva => by subst hva; exact h'
  rw [dropValue_plain hv]
  refine pureP ?_
  cases v <;> first | exact h' | exact (hv _ rfl).elim
theorem AssignNameP {x pos' value pos} {Q : Flow → Shared → Prop}
    (h : wpP M A (eval value env) (fun v s₁ => wpP M A (storeName env x v) (fun _ => Q .next) E s₁) E s)
    (hs : swapsWith value (some (.Name x pos')) pos.line env = pure false := by rfl) :
    wpP M A (exec (.Assign [.Name x pos'] value pos) env) Q E s := by
  rw [exec_Assign_Name env x pos' value pos hs]
  refine bindP (atP (bindP (monoP h (fun v s₁ h₁ => bindP (atP (bindP ?_))) fun _ _ x => x)))
  unfold bindName
  exact bindP (holdP (pointP (bindP (monoP h₁ (fun _ _ z => pointP (pureP z)) fun _ _ x => x))))
theorem AugNameP {x pos' op value pos} {Q : Flow → Shared → Prop}
    (h : wpP M A (loadName env x) (fun old s₁ => wpP M A (eval value env) (fun v s₂ => wpP M A (inplaceOp op old v)
      (fun r s₃ => wpP M A (storeName env x r) (fun _ => Q .next) E s₃) E s₂) E s₁) E s) :
    wpP M A (exec (.AugAssign (.Name x pos') op value pos) env) Q E s := by
  rw [arm_exec_AugAssign]
  refine bindP (atP (bindP (monoP h (fun old s₁ h₁ => bindP (holdP (monoP h₁ (fun v s₂ h₂ => bindP (atP (bindP (operateP (monoP h₂ (fun r s₃ h₃ => bindP (atP (bindP ?_))) fun _ _ x => x))))) fun _ _ x => x))) fun _ _ x => x)))
  unfold bindName
  exact bindP (holdP (pointP (bindP (monoP h₃ (fun _ _ z => pointP (pureP z)) fun _ _ x => x))))
theorem AugAttrP {o attr tpos op value pos} {Q : Flow → Shared → Prop}
    (h : wpP M A (eval o env) (fun ov s₁ => wpP M A (getAttr ov attr true) (fun old s₂ => wpP M A (eval value env) (fun v s₃ => wpP M A (inplaceOp op old v)
      (fun new s₄ => wpP M A (setAttr ov attr new) (fun _ => Q .next) E s₄) E s₃) E s₂) E s₁) E s) :
    wpP M A (exec (.AugAssign (.Attribute o attr tpos) op value pos) env) Q E s := by
  rw [arm_exec_AugAssign_2]
  refine bindP (atP (bindP (monoP h (fun ov s₁ h₁ => ?_) fun _ _ x => x)))
  refine bindP (holdP (bindP (atP (bindP (monoP h₁ (fun old s₂ h₂ => ?_) fun _ _ x => x)))))
  refine bindP (holdP (monoP h₂ (fun v s₃ h₃ => ?_) fun _ _ x => x))
  refine bindP (atP (operateP (monoP h₃ (fun new s₄ h₄ => ?_) fun _ _ x => x)))
  exact bindP (atP (bindP (holdP (monoP h₄ (fun _ _ z => bindP (releaseP (pureP z))) fun _ _ x => x))))
theorem AssignAttrP {o attr pos' value pos} {Q : Flow → Shared → Prop}
    (h : wpP M A (eval value env) (fun v s₁ => wpP M A (eval o env) (fun ov s₂ => wpP M A (setAttr ov attr v) (fun _ => Q .next) E s₂) E s₁) E s)
    (hs : swapsWithSole [.Attribute o attr pos'] value pos.line env = pure false := by rfl)
    (hz : swappedStores [.Attribute o attr pos'] value env = pure none := by rfl) :
    wpP M A (exec (.Assign [.Attribute o attr pos'] value pos) env) Q E s := by
  rw [arm_exec_Assign, hs]
  refine bindP (atP (bindP (pureP ?_)))
  rw [if_neg (by decide)]
  refine bindP (monoP h (fun v s₁ h₁ => ?_) fun _ _ x => x)
  rw [hz]
  refine bindP (pureP ?_)
  show wpP M A (do assign (.Attribute o attr pos') env v; pure .next) Q E s₁
  rw [arm_assign_Attribute]
  refine bindP ?_
  refine bindP (holdP (monoP h₁ (fun ov s₂ h₂ => ?_) fun _ _ x => x))
  exact bindP (atP (bindP (holdP (monoP h₂ (fun _ _ z => releaseP (pureP z)) fun _ _ x => x))))
theorem IfP {test body orelse pos} {Q : Flow → Shared → Prop}
    (h : wpP M A (isTrue test env (eval test env)) (fun b s₂ => if b then wpP M A (execs body env) Q E s₂ else wpP M A (execs orelse env) Q E s₂) E s) :
    wpP M A (exec (.If test body orelse pos) env) Q E s := by
  rw [exec_If]
  refine bindP (atP (bindP (monoP h (fun b s₂ h₂ => ?_) fun _ _ x => x)))
  cases b <;> exact h₂
theorem ReturnP {e pos} {Q : Flow → Shared → Prop} (h : wpP M A (eval e env) (fun v => Q (.ret v)) E s) : wpP M A (exec (.Return (some e) pos) env) Q E s := by
  rw [exec_Return_some]
  exact bindP (atP (bindP (monoP h (fun _ _ z => pureP z) fun _ _ x => x)))
end
end Mine

end
section
open PySem PySem.W PySem.Calls PyProof.Rows
open Sem (wp)
set_option Elab.async false
namespace Mine

/-! ## Expressions -/
section
variable {M : Model} {A : Around} {E : Value → Shared → Prop} {s : Shared} {env : Env}

theorem BinOpP {l op r pos} {Q : Value → Shared → Prop} (h : wpP M A (eval l env) (fun a s₁ => wpP M A (eval r env) (fun b s₂ => wpP M A (binaryOp op a b) Q E s₂) E s₁) E s) :
    wpP M A (eval (.BinOp l op r pos) env) Q E s := by
  rw [arm_eval_BinOp]
  exact bindP (monoP h (fun a s₁ h₁ => bindP (holdP (monoP h₁ (fun b s₂ h₂ => bindP (atP (operateP h₂))) fun _ _ x => x))) fun _ _ x => x)
theorem UnaryP {op x pos} {Q : Value → Shared → Prop} (h : wpP M A (eval x env) (fun a s₁ => wpP M A (unaryOp op a) Q E s₁) E s) :
    wpP M A (eval (.UnaryOp op x pos) env) Q E s := by
  rw [arm_eval_UnaryOp]
  exact bindP (monoP h (fun a s₁ h₁ => bindP (atP (holdP h₁))) fun _ _ x => x)
theorem CompareP {l op r pos} {Q : Value → Shared → Prop} (h : wpP M A (eval l env) (fun a s₁ => wpP M A (eval r env) (fun b s₂ => wpP M A (compareOp op a b) Q E s₂) E s₁) E s)
    (hm : behindInMarks op r = false := by with_unfolding_all rfl) : wpP M A (eval (.Compare l [op] [r] pos) env) Q E s := by
  rw [eval_Compare1, markedBehindIn_of_false hm]
  exact bindP (monoP h (fun a s₁ h₁ => bindP (holdP (monoP h₁ (fun b s₂ h₂ => bindP (atP (operateP h₂))) fun _ _ x => x))) fun _ _ x => x)
theorem TestCompareP {l op r pos whole} {Q : Bool → Shared → Prop} (h : wpP M A (eval l env) (fun a s₁ => wpP M A (eval r env) (fun b s₂ => wpP M A (compareOp op a b) (fun c s₃ => wpP M A (truthy c) Q E s₃) E s₂) E s₁) E s)
    (hm : behindInMarks op r = false := by with_unfolding_all rfl) : wpP M A (isTrue (.Compare l [op] [r] pos) env whole) Q E s := by
  rw [isTrue_Compare1, markedBehindIn_of_false hm]
  exact bindP (monoP h (fun a s₁ h₁ => bindP (holdP (monoP h₁ (fun b s₂ h₂ => bindP (atP (bindP (operateP (monoP h₂ (fun c s₃ h₃ => holdP h₃) fun _ _ x => x))))) fun _ _ x => x))) fun _ _ x => x)
theorem TestNotP {x p whole} {Q : Bool → Shared → Prop} (h : wpP M A (isTrue x env (eval x env)) (fun b => Q (!b)) E s) : wpP M A (isTrue (.UnaryOp .Not x p) env whole) Q E s := by
  rw [arm_isTrue_UnaryOp]
  exact bindP (monoP h (fun _ _ z => pureP z) fun _ _ x => x)
theorem TestBoolP {op values p whole} {Q : Bool → Shared → Prop} (h : wpP M A (allTrue op values env) Q E s) : wpP M A (isTrue (.BoolOp op values p) env whole) Q E s := by
  rw [arm_isTrue_BoolOp]; exact h
theorem allTrue_nilP {op} {Q : Bool → Shared → Prop} (h : Q (op == .And) s) : wpP M A (allTrue op [] env) Q E s := by
  rw [arm_allTrue_nil]; exact pureP h
theorem allTrue_andP {x rest} {Q : Bool → Shared → Prop} (h : wpP M A (isTrue x env (eval x env)) (fun b s₁ => if b then wpP M A (allTrue .And rest env) Q E s₁ else Q false s₁) E s) : wpP M A (allTrue .And (x :: rest) env) Q E s := by
  rw [arm_allTrue_cons]
  refine bindP (monoP h (fun b s₁ h₁ => ?_) fun _ _ x => x)
  cases b <;> first | exact pureP h₁ | exact h₁
theorem allTrue_orP {x rest} {Q : Bool → Shared → Prop} (h : wpP M A (isTrue x env (eval x env)) (fun b s₁ => if b then Q true s₁ else wpP M A (allTrue .Or rest env) Q E s₁) E s) : wpP M A (allTrue .Or (x :: rest) env) Q E s := by
  rw [arm_allTrue_cons]
  refine bindP (monoP h (fun b s₁ h₁ => ?_) fun _ _ x => x)
  cases b <;> first | exact pureP h₁ | exact h₁
/-- a test that is a value: its truth -/
theorem TestP {e} {Q : Bool → Shared → Prop} (h : wpP M A (eval e env) (fun v s₁ => wpP M A (truthy v) Q E s₁) E s)
    (he : ∀ w, isTrue e env w = (do let v ← w; standAt e.pos; holding [v] (truthy v)) := by intro _; rfl) : wpP M A (isTrue e env (eval e env)) Q E s := by
  rw [he]
  exact bindP (monoP h (fun _ _ z => bindP (atP (holdP z))) fun _ _ x => x)
theorem IfExpP {t b o p} {Q : Value → Shared → Prop} (h : wpP M A (isTrue t env (eval t env)) (fun c s₁ => if c then wpP M A (eval b env) Q E s₁ else wpP M A (eval o env) Q E s₁) E s) :
    wpP M A (eval (.IfExp t b o p) env) Q E s := by
  rw [arm_eval_IfExp]
  refine bindP (monoP h (fun b s₁ h₁ => ?_) fun _ _ x => x)
  cases b <;> exact h₁
theorem truthyB {b : Bool} {Q : Bool → Shared → Prop} (h : Q b s) : wpP M A (truthy (.bool b)) Q E s := up (wpAny_truthy_bool h)

theorem spliced_nilP {Q : List Value → Shared → Prop} {pos : Pos} (h : Q [] s) : wpP M A (spliced (backTo pos (starEach [] env))) Q E s := ⟨fun _ _ _ _ => h⟩
theorem spliced_consP {e : Expr} {rest : List Expr} {pos : Pos} {Q : List Value → Shared → Prop}
    (h : wpP M A (eval e env) (fun v s₁ => wpP M A (spliced (backTo pos (starEach rest env))) (fun vs s₂ => Q (v :: vs) s₂) E s₁) E s)
    (he : starEach (e :: rest) env = (false, eval e env) :: starEach rest env := by rfl) : wpP M A (spliced (backTo pos (starEach (e :: rest) env))) Q E s := by
  rw [he]
  have e2 : spliced (backTo pos ((false, eval e env) :: starEach rest env)) = (do let v ← eval e env; let here ← pure [v]; return here ++ (← holding here (spliced (backTo pos (starEach rest env))))) := rfl
  rw [e2]
  exact bindP (monoP h (fun v s₁ h₁ => bindP (pureP (bindP (holdP (monoP h₁ (fun vs s₂ h₂ => pureP h₂) fun _ _ x => x))))) fun _ _ x => x)
theorem TupleP {elts : List Expr} {k : Nat} {pos : Pos} {Q : Value → Shared → Prop} (h : wpP M A (spliced (backTo pos (starEach elts env))) (fun vs s₁ => wpP M A (newTuple vs) Q E s₁) E s) : wpP M A (eval (.Tuple elts k pos) env) Q E s := by
  rw [arm_eval_Tuple]
  exact bindP (atP (bindP h))
theorem ListP {elts : List Expr} {pos : Pos} {Q : Value → Shared → Prop} (h : wpP M A (spliced (backTo pos (starEach elts env))) (fun vs s₁ => wpP M A (newList vs) Q E s₁) E s) : wpP M A (eval (.List elts pos) env) Q E s := by
  rw [arm_eval_List]
  exact bindP (atP (bindP h))

theorem evalArgsL {f : Value} {Q : Args → Shared → Prop} {l : List (Bool × Sem Value)} (h : wpP M A (spliced l) (fun vs s₁ => Q ⟨vs, []⟩ s₁) E s)
    (hp : l.any (·.1) = false) : wpP M A (evalArgs f true l []) Q E s := by
  unfold evalArgs
  rcases l with _ | ⟨⟨b, x⟩, _ | ⟨y, r⟩⟩
  · exact bindP (monoP h (fun vs s₁ h₁ => bindP (pureP (holdP (bindP (pureP (bindP (pureP (pureP h₁)))))))) fun _ _ x => x)
  · cases b with
    | true => cases hp
    | false => exact bindP (monoP h (fun vs s₁ h₁ => bindP (pureP (holdP (bindP (pureP (bindP (pureP (pureP h₁)))))))) fun _ _ x => x)
  · cases b <;> exact bindP (monoP h (fun vs s₁ h₁ => bindP (pureP (holdP (bindP (pureP (bindP (pureP (pureP h₁)))))))) fun _ _ x => x)
theorem evalArgsP {f : Value} {Q : Args → Shared → Prop} {args : List Expr} {pos : Pos} (h : wpP M A (spliced (backTo pos (starEach args env))) (fun vs s₁ => Q ⟨vs, []⟩ s₁) E s)
    (hp : (backTo pos (starEach args env)).any (·.1) = false := by rfl) : wpP M A (evalArgs f true (backTo pos (starEach args env)) []) Q E s := evalArgsL h hp

theorem callWithP {P : Heap → Prop} {f : Value} {first : List Value} {args : List Expr} {pos : Pos} {Q : Value → Shared → Prop}
    (hk : ∀ h, P h → ∃ k, (k = Keeper.frame ∨ k = Keeper.machine ∨ k = Keeper.boundFrame) ∧ Looks M h (keeperOf f) k)
    (h : wpP M A (spliced (backTo pos (starEach args env))) (fun vs s₁ => P s₁.heap ∧ wpP M A (call f (first ++ vs)) Q E s₁) E s)
    (hp : (backTo pos (starEach args env)).any (·.1) = false := by rfl) : wpP M A (callWith pos f first (backTo pos (starEach args env)) []) Q E s := by
  unfold callWith
  refine bindP (holdP (evalArgsP (monoP h (fun vs s₁ h₁ => bindP (atP ?_)) fun _ _ x => x) hp))
  obtain ⟨k, hk', L⟩ := hk _ h₁.1
  rw [hp]
  refine bindP (up (L.here ?_))
  have tail : ∀ {t : Sem Value}, wpP M A t Q E s₁ → wpP M A (t >>= fun r => holding [r] point >>= fun _ => pure r) Q E s₁ :=
    fun ht => bindP (monoP ht (fun r s₂ hr => bindP (holdP (pointP (pureP hr)))) fun _ _ x => x)
  have marked (mk : Value) : wpP M A (callMarked mk f (first ++ vs) []) Q E s₁ := by unfold callMarked; exact keepP h₁.2
  rcases hk' with rfl | rfl | rfl
  · by_cases c : (backTo pos (starEach args env)).length + 2 * ([] : List (Option Str × Sem Value)).length > 30
    · simp only [List.any_nil, Bool.or_false, if_pos c]; exact tail h₁.2
    · simp only [List.any_nil, Bool.or_false, if_neg c]; exact tail (marked _)
  · exact tail h₁.2
  · by_cases c : (backTo pos (starEach args env)).length + 2 * ([] : List (Option Str × Sem Value)).length > 30
    · simp only [List.any_nil, Bool.or_false, if_pos c]; exact tail h₁.2
    · simp only [List.any_nil, Bool.or_false, if_neg c]; exact tail (marked _)
end
end Mine

end
section
open PySem PySem.W PySem.Calls PyProof.Rows
open Sem (wp)
set_option Elab.async false
namespace Mine

section
variable {W : Wd} {A : Around} {E : Value → Shared → Prop} {a : Act} {xs : List Str} {ρ : List (Option Value)} {led : List (Addr × Obj)} {h : Heap} {G : Array GenState} {D : Drawn} {tk : Nat} {O : OsState} {env : Env}

/-! ## Names, constants, stores -/
theorem NameL {x : Str} {pos : Pos} {v : Value} {i : Nat} {Q : Value → Shared → Prop} (S : St W a xs ρ led h) (hx : At xs i x) (hv : ρ[i]? = some (some v)) (hl : env.locals = a.L)
    (hk : env.scope.kind = .function) (hxs : ∀ x ∈ xs, env.kindOf x = some .local ∧ (x == ("__debug__" : Str)) = false) (q : Q v ⟨h, G, D, tk, O⟩) :
    wpP W.M A (eval (.Name x pos) env) Q E ⟨h, G, D, tk, O⟩ := by
  obtain ⟨m, F, hm⟩ := S.vars
  have k := hxs x hx.mem
  exact up (wpAny_Name (wpAny_loadName_local hk k.1 (hl ▸ F.ns) (hm i x v hx.get hv) q) k.2)
theorem loadNameL {x : Str} {v : Value} {i : Nat} {Q : Value → Shared → Prop} (S : St W a xs ρ led h) (hx : At xs i x) (hv : ρ[i]? = some (some v)) (hl : env.locals = a.L)
    (hk : env.scope.kind = .function) (hxs : ∀ x ∈ xs, env.kindOf x = some .local ∧ (x == ("__debug__" : Str)) = false) (q : Q v ⟨h, G, D, tk, O⟩) :
    wpP W.M A (loadName env x) Q E ⟨h, G, D, tk, O⟩ := by
  obtain ⟨m, F, hm⟩ := S.vars
  exact up (wpAny_loadName_local hk (hxs x hx.mem).1 (hl ▸ F.ns) (hm i x v hx.get hv) q)
/-- what a name of the text's top, or a built-in's, stands for -/
def GV (W : Wd) (x : Str) (v : Value) : Prop := ∀ h mg mb, W.K.In h → TopRead W.p W.loose mg mb h → mg x = some v ∨ (mg x = none ∧ mb x = some v)
theorem GV.glob {x : Str} {v : Value} (e : nsIn W.K mainGlobals x = some (some v)) : GV W x v := fun _ _ _ X T => .inl (mg_of X T.g e)
theorem GV.built {x : Str} {v : Value} (e : nsIn W.K mainGlobals x = some none) (hv : bootBuiltins x = some v) (hn : x ≠ "__name__") : GV W x v := fun _ _ _ X T => .inr ⟨mg_none_of X T.g e, (T.builtins x hn).trans hv⟩
theorem NameG {x : Str} {pos : Pos} {v : Value} {Q : Value → Shared → Prop} (S : St W a xs ρ led h) (g : GV W x v) (hg : env.globals = mainGlobals) (hb : env.builtins = builtinsNs)
    (hk : env.scope.kind = .function) (hx : env.kindOf x = some .globalImplicit ∧ (x == ("__debug__" : Str)) = false) (q : Q v ⟨h, G, D, tk, O⟩) :
    wpP W.M A (eval (.Name x pos) env) Q E ⟨h, G, D, tk, O⟩ := by
  obtain ⟨m, F, hm⟩ := S.vars
  obtain ⟨mg, mb, T⟩ := S.ok.T
  have T' := T.keeps F.keep
  refine up (Name_function_global hk hx.1 ?_ hx.2)
  rcases g h mg mb S.X T' with e | ⟨e, e'⟩
  · exact loadGlobal_global (hg ▸ T'.g) e q
  · exact loadGlobal_builtin (hg ▸ T'.g) e (hb ▸ T'.b) e' q
theorem storeL {x : Str} {v : Value} {i : Nat} {Q : Unit → Shared → Prop} (S : St W a xs ρ led h) (hx : At xs i x) (hl : env.locals = a.L)
    (hk : env.scope.kind = .function) (hxs : ∀ x ∈ xs, env.kindOf x = some .local ∧ (x == ("__debug__" : Str)) = false)
    (q : ∀ h' tk', St W a xs (ρ.set i (some v)) led h' → Q () ⟨h', G, D, tk', O⟩) : wpP W.M A (storeName env x v) Q E ⟨h, G, D, tk, O⟩ := by
  have k := (hxs x hx.mem).1
  have hp : (env.scope.kind == .class || (env.scope.kind == .module && env.locals != env.globals)) = false := by rw [hk]; rfl
  rw [storeName_local k hp]
  refine up fun Γ p hΓ => ?_
  obtain ⟨m, F, hm⟩ := S.vars
  have key : ∀ h', Heap.SameBut a.L h h' → h'.Ns a.L (fun y => if y = x then some v else m y) → St W a xs (ρ.set i (some v)) led h' := by
    intro h' hs hn
    refine S.store (v := v) hx (fun m₂ hm₂ => ?_) hs
    have : m₂ = m := by
      obtain ⟨o, es, ep, ho, hd, _, hf⟩ := hm₂
      obtain ⟨o', es', ep', ho', hd', _, hf'⟩ := F.ns
      rw [ho] at ho'; cases ho'; rw [hd] at hd'; cases hd'
      funext y; rw [← hf y, ← hf' y]
    rw [this]; exact hn
  exact (wpAny_nsSet (M := W.M) (A := A) (E := E) (s := ⟨h, G, D, tk, O⟩) (a := env.locals) (hl ▸ F.ns) fun h' hn hs => q h' (tk + 1) (key h' (hl ▸ hs) (hl ▸ hn))) Γ p hΓ

theorem constI {i : Int} {k : Nat} {pos : Pos} {Q : Value → Shared → Prop} (q : ∀ t tk', Q (.int i t) ⟨h, G, D, tk', O⟩) : wpP W.M A (eval (.Constant (.int i) k pos) env) Q E ⟨h, G, D, tk, O⟩ := ⟨fun _ _ _ _ => q _ _⟩
theorem constS {x : Str} {k : Nat} {pos : Pos} {Q : Value → Shared → Prop} (q : ∀ t tk', Q (.str x t) ⟨h, G, D, tk', O⟩) : wpP W.M A (eval (.Constant (.str x) k pos) env) Q E ⟨h, G, D, tk, O⟩ := ⟨fun _ _ _ _ => q _ _⟩
theorem constB {b : Bool} {k : Nat} {pos : Pos} {Q : Value → Shared → Prop} (q : Q (.bool b) ⟨h, G, D, tk, O⟩) : wpP W.M A (eval (.Constant (.bool b) k pos) env) Q E ⟨h, G, D, tk, O⟩ := ⟨fun _ _ _ _ => q⟩
theorem constN {k : Nat} {pos : Pos} {Q : Value → Shared → Prop} (q : Q .none ⟨h, G, D, tk, O⟩) : wpP W.M A (eval (.Constant .none k pos) env) Q E ⟨h, G, D, tk, O⟩ := ⟨fun _ _ _ _ => q⟩
theorem constBytes {b : List UInt8} {k : Nat} {pos : Pos} {Q : Value → Shared → Prop} (q : ∀ t tk', Q (.bytes b.toArray t) ⟨h, G, D, tk', O⟩) : wpP W.M A (eval (.Constant (.bytes b) k pos) env) Q E ⟨h, G, D, tk, O⟩ := ⟨fun _ _ _ _ => q _ _⟩

/-! ## New objects -/
theorem newP {o : Obj} {Q : Addr → Shared → Prop} (S : St W a xs ρ led h) (hf : o.isFreed = false) (q : ∀ x h' tk', St W a xs ρ ((x, o) :: led) h' → (∀ p ∈ led, p.1 ≠ x) → Q x ⟨h', G, D, tk', O⟩) : wpP W.M A (alloc o) Q E ⟨h, G, D, tk, O⟩ :=
  up (wpAny_alloc (q _ _ _ (S.push o hf) fun _ hp => Nat.ne_of_lt (S.led_lt hp)))
abbrev tupO (vs : List Value) : Obj := { cls := .type "tuple", data := .seq vs.toArray }
abbrev lstO (vs : List Value) (n : Nat := 0) : Obj := { cls := .type "list", data := .seq vs.toArray n }
abbrev baO (b : Array UInt8) (n : Nat := 0) : Obj := { cls := .type "bytearray", data := .bytearray b n }
theorem newTupleP {vs : List Value} {Q : Value → Shared → Prop} (S : St W a xs ρ led h) (hsz : vs.length ≤ 1000)
    (q : ∀ x h' tk', St W a xs ρ ((x, tupO vs) :: led) h' → (∀ p ∈ led, p.1 ≠ x) → Q (.ref x) ⟨h', G, D, tk', O⟩) : wpP W.M A (newTuple vs) Q E ⟨h, G, D, tk, O⟩ :=
  up (wpAny_newObj_type (q _ _ _ (S.push _) fun _ hp => Nat.ne_of_lt (S.led_lt hp)) (by show vs.toArray.size ≤ sizeLine; rw [List.size_toArray]; exact Nat.le_trans hsz (by decide)))
theorem newListP {vs : List Value} {Q : Value → Shared → Prop} (S : St W a xs ρ led h) (hsz : vs.length ≤ 1000)
    (q : ∀ x h' tk', St W a xs ρ ((x, lstO vs) :: led) h' → (∀ p ∈ led, p.1 ≠ x) → Q (.ref x) ⟨h', G, D, tk', O⟩) : wpP W.M A (newList vs) Q E ⟨h, G, D, tk, O⟩ :=
  up (wpAny_newObj_type (q _ _ _ (S.push _) fun _ hp => Nat.ne_of_lt (S.led_lt hp)) (by show vs.toArray.size ≤ sizeLine; rw [List.size_toArray]; exact Nat.le_trans hsz (by decide)))
end

/-! ## Calls of the text's own defs -/
def valOf : Flow → Value
  | .ret v => v
  | _ => .none

structure Child (W : Wd) (a a' : Act) (xs : List Str) (ρ : List (Option Value)) (env : Env) : Prop where
  ret : ∀ {ys ρ' led' h'}, St W a' ys ρ' led' h' → St W a xs ρ led' h'
  gg : a.g.StaysIn a'.g
  envs : a'.envs = env :: a.envs
  loc : env.frame = some a'.L

section
variable {W : Wd} {A : Around} {a : Act} {xs : List Str} {ρ : List (Option Value)} {led : List (Addr × Obj)} {h : Heap} {G : Array GenState} {D : Drawn} {tk : Nat} {O : OsState}

theorem St.L_lt (S : St W a xs ρ led h) : a.L < h.objs.size := let ⟨_, F, _⟩ := S.vars; F.ns.lt

/-- the ground of a call: what the callee must keep -/
theorem St.call (S : St W a xs ρ led h) (env' : Env) {ys : List Str} {ρ' : List (Option Value)} {h₁ : Heap} {m : Str → Option Value} (hf : env'.frame = some h.objs.size) (hk : env'.scope.kind = .function) (nd : ys.Nodup)
    (hn : h₁.Ns h.objs.size m) (hm : ∀ (i : Nat) (x : Str) (v : Value), ys[i]? = some x → ρ'[i]? = some (some v) → m x = some v) (keep : ∀ b o, h.get? b = some o → h₁.get? b = some o) :
    ∃ a', a'.L = h.objs.size ∧ Child W a a' xs ρ env' ∧ St W a' ys ρ' led h₁ ∧ (∀ b, h.objs.size ≤ b → a'.g.get? b = none) ∧ ∀ q ∈ a'.fs, q.1 < h.objs.size := by
  obtain ⟨m₀, F, hm₀⟩ := S.vars
  obtain ⟨fn, e1, e2, e3, e4⟩ := S.frames
  obtain ⟨oL, es, ep, hL, hLd, hLk, hLf⟩ := F.ns
  let hid := a.L :: (a.fs.map (·.1) ++ led.map (·.1))
  let a' : Act := ⟨hideAll h hid, h.objs.size, (a.L, oL) :: fn, env' :: a.envs⟩
  have gN : ∀ b o, a.g.get? b = some o → b ∉ hid := fun b o e q => by
    rcases List.mem_cons.mp q with z | q
    · exact absurd (Nat.lt_of_lt_of_le (z ▸ Heap.lt_size e) F.above) (Nat.lt_irrefl _)
    · rcases List.mem_append.mp q with q | q
      · obtain ⟨p, hp, z⟩ := List.mem_map.mp q
        have := (S.ok.new p hp).1; rw [z, e] at this; cases this
      · obtain ⟨p, hp, z⟩ := List.mem_map.mp q
        have := (S.news p hp).2.2; rw [z, e] at this; cases this
  have gg : a.g.StaysIn a'.g := fun b o e => hideAll_get _ (F.keep b o e) (gN b o e)
  have fnlt : ∀ q ∈ fn, q.1 < h.objs.size := fun q hq => Heap.lt_size (e2 q hq).1
  have fr' : ∀ q ∈ a'.fs, h.get? q.1 = some q.2 ∧ q.1 ∈ hid := fun q hq => by
    rcases List.mem_cons.mp hq with rfl | hq
    · exact ⟨hL, .head _⟩
    · refine ⟨(e2 q hq).1, .tail _ (List.mem_append_left _ ?_)⟩
      rw [← e1]; exact List.mem_map_of_mem hq
  have ok' : a'.OK W ys := by
    refine ⟨S.ok.X.keeps gg, let ⟨mg, mb, T⟩ := S.ok.T; ⟨mg, mb, T.keeps gg⟩, nd, ?_, ?_, ?_, ?_⟩
    · show env'.frame :: a.envs.map (·.frame) = some h.objs.size :: some a.L :: (fn.map (·.1)).map some
      rw [hf, S.ok.fr, e1]; rfl
    · intro e he
      rcases List.mem_cons.mp he with rfl | he
      · exact hk
      · exact S.ok.kd e he
    · intro q hq
      rcases List.mem_cons.mp hq with rfl | hq
      · exact ⟨es, ep, hLd⟩
      · obtain ⟨q', hq', _, sl, z⟩ := e4 q hq
        obtain ⟨es, n, hd⟩ := S.ok.dict q' hq'
        exact ⟨es, n, by rw [z]; exact hd⟩
    · intro q hq
      exact ⟨hideAll_none _ (fr' q hq).2, Nat.ne_of_lt (Heap.lt_size (fr' q hq).1)⟩
  refine ⟨a', rfl, ⟨?_, gg, rfl, hf⟩, ⟨ok', ⟨m, ⟨hn, fun b o e => keep b o (of_hideAll _ e), Nat.le_of_eq (hideAll_size _ _)⟩, hm⟩, ?_, ?_, ?_⟩, fun b hb => ?_, fun q hq => Heap.lt_size (fr' q hq).1⟩
  rotate_right
  · cases z : a'.g.get? b with
    | none => rfl
    | some o => exact absurd (Heap.lt_size (of_hideAll _ z)) (Nat.not_lt.mpr hb)
  · intro ys' ρ'' led'' h'' S'
    obtain ⟨m', F', _⟩ := S'.vars
    refine ⟨S.ok, ⟨m₀, ⟨?_, fun b o e => F'.keep b o (gg b o e), F.above⟩, hm₀⟩, fun p hp => ⟨(S'.news p hp).1, S'.apart (a.L, oL) (.head _) p hp, ?_⟩, fun q hq => ?_, fun q hq p hp => ?_⟩
    · obtain ⟨sl, z⟩ := S'.frms (a.L, oL) (.head _)
      exact ⟨_, es, ep, z, hLd, hLk, hLf⟩
    · cases z : a.g.get? p.1 with
      | none => rfl
      | some o => have := (S'.news p hp).2.2; rw [gg _ _ z] at this; cases this
    · obtain ⟨sl, hs⟩ := e3 q hq
      obtain ⟨sl', z⟩ := S'.frms _ (.tail _ hs)
      exact ⟨sl', z⟩
    · obtain ⟨sl, hs⟩ := e3 q hq
      exact S'.apart _ (.tail _ hs) p hp
  · intro p hp
    exact ⟨keep _ _ (S.news p hp).1, Nat.ne_of_lt (S.led_lt hp), hideAll_none _ (.tail _ (List.mem_append_right _ (List.mem_map_of_mem hp)))⟩
  · intro q hq
    exact ⟨q.2.slots, keep _ _ (fr' q hq).1⟩
  · intro q hq p hp
    rcases List.mem_cons.mp hq with rfl | hq
    · exact (S.news p hp).2.1
    · obtain ⟨q', hq', z, _⟩ := e4 q hq
      rw [z]; exact S.apart q' hq' p hp
end
end Mine

end
section
open PySem PySem.W PySem.Calls PyProof.Rows
open Sem (wp)
set_option Elab.async false
set_option linter.unusedVariables false
namespace Mine

section
variable {W : Wd} {A : Around} {a : Act} {xs : List Str} {ρ : List (Option Value)} {led : List (Addr × Obj)} {h : Heap} {G : Array GenState} {D : Drawn} {tk : Nat} {O : OsState}

theorem funcP {body : List Stmt} {env : Env} {R : Result → Shared → Prop} {s : Shared}
    (k : wpP W.M (A.deeper env) (execs body env) (fun f s' => R (.ok (.ret (valOf f))) s')
      (fun e s' => wpP W.M (A.deeper env) (leaving env e) (fun _ s'' => R (.error e) s'') (fun e' s'' => R (.error e') s'') s') s) : codeP W.M A (.func body env) R s := by
  refine treeC rfl ?_
  show wpP _ (A.deeper env) (do point; match ← (execs body env).onRaise (leaving env) with | .ret v => ret v | _ => ret .none) _ _ s
  refine bindP (pointP (bindP (onRaiseP (monoP k (fun f s' h' => ?_) fun _ _ h' => h'))))
  cases f <;> exact pureP h'

/-- what a def's body is walked in -/
def Body (W : Wd) (A : Around) (R : Result → Shared → Prop) (body : List Stmt) (env : Env) (s : Shared) : Prop :=
  wpP W.M A (execs body env) (fun f s' => R (.ok (.ret (valOf f))) s')
      (fun e s' => wpP W.M A (leaving env e) (fun _ s'' => R (.error e) s'') (fun e' s'' => R (.error e') s'') s') s

theorem fnP {R : Result → Shared → Prop} {n : Nat} {fa : Addr} {oc : Value} {od an : Option Addr} {osl : Array (Option Value)} {name qual : Str} {params : Arguments} {body : List Stmt} {scope : Scope} {dV kV doc pm cdv ct : Value} {args : Args} {binds : List (Str × Value)} {ys : List Str} {ρ' : List (Option Value)}
    (S : St W a xs ρ led h) (hA : AOK A a (n + 1)) (ho : W.K.lookup fa = some ⟨oc, od, .func (fnOf name qual params body scope dV kV doc pm an cdv ct), osl⟩) (hcd : codeIn W.K cdv qual = true)
    (hb : BindsTo ⟨h, G, D, tk, O⟩ (fnOf name qual params body scope dV kV doc pm an cdv ct) args binds)
    (hloc : ∀ y ∈ binds, scope.names.lookup y.1 = some .local) (nd : ys.Nodup)
    (hr : ∀ (i : Nat) (x : Str) (v : Value), ys[i]? = some x → ρ'[i]? = some (some v) → binds.reverse.lookup x = some v)
    (hcell : ∀ x ∈ scope.names, x.2 ≠ .cell) (hco : scope.isCoroutine = false) (hgen : scope.isGenerator = false) (hk : scope.kind = .function)
    (k : ∀ a' h₁ tk₁, a'.L = h.objs.size → Child W a a' xs ρ (envOf qual scope a'.L fa cdv) → St W a' ys ρ' led h₁ → AOK (A.deeper (envOf qual scope a'.L fa cdv)) a' n →
      Body W (A.deeper (envOf qual scope a'.L fa cdv)) R body (envOf qual scope a'.L fa cdv) ⟨h₁, G, D, tk₁, O⟩) :
    codeP W.M A (.call (.ref fa) args) R ⟨h, G, D, tk, O⟩ := by
  refine treeC rfl ?_
  show wpP _ A.in1 (callAny (.ref fa) args) _ _ _
  simp only [callAny]
  refine bindP (up (wpAny_load (S.X _ _ ho) ?_))
  obtain ⟨c, oc', vs, tq, hc, hoc, hdc, hq⟩ := codeRec_of S.X hcd
  subst hc
  simp only [callFunction, hco, hgen]
  refine bindP (m := field (.ref c) 1) (up (wpAny_field hoc hdc hq ?_))
  refine bindP (pureP (bindP (up (hb _ _ _ _ ?_))))
  refine bindP (up (wpAny_newFunctionEnv hcell hloc (fun h₁ hns hsb => ?_) hk))
  have hlim : h.NoLimit := by obtain ⟨m, F, _⟩ := S.vars; obtain ⟨mg, mb, T⟩ := S.ok.T; exact (T.keeps F.keep).nolimit
  have room : A.in1.depth < recursionLimit := hA.room
  refine bindP (up (wpAny_enterFrame (hlim.fresh _ hsb) room ?_))
  refine pureP (And.intro rfl ?_)
  obtain ⟨a', eL, ch, S', _, _⟩ := S.call (envOf qual scope h.objs.size fa (.ref c)) (ys := ys) (ρ' := ρ') (h₁ := h₁) rfl hk nd hns hr fun b o e => hsb.extBut b o (Nat.ne_of_lt (Heap.lt_size e)) (Heap.get?_push_of_some _ e)
  have z := k a' h₁ (tk + binds.length) eL (eL ▸ ch) S' ⟨by show A.frames.map _ = _; rw [hA.fr, ch.envs, eL]; rfl, hA.hd, by have := hA.dp; show A.depth + 1 + n ≤ 900; omega, by have := hA.un; show A.units + 3 + 20 * n ≤ 9000; omega⟩
  refine funcP ?_
  rw [eL] at z
  exact z
end

/-! ## Exceptions -/
section
variable {W : Wd} {A : Around} {E : Value → Shared → Prop} {a a' : Act} {xs ys : List Str} {ρ ρ' : List (Option Value)} {led led' : List (Addr × Obj)} {h h₁ h₂ : Heap} {G : Array GenState} {D : Drawn} {tk : Nat} {O : OsState} {env : Env}

/-- an exception of the class C is on its way to this activation; the state is as it was ahead of the call -/
def Er (W : Wd) (a : Act) (xs : List Str) (ρ : List (Option Value)) (led : List (Addr × Obj)) (e C : Addr) (h : Heap) : Prop :=
  ∃ h0 B a0, St W a xs ρ led h0 ∧ Heap.FlyingW B a.envs e (.ref C) a0 h ∧ a.g.StaysIn B ∧ (∀ p ∈ led, B.get? p.1 = some p.2) ∧ h0.UpToSlots h

def Act.frs (a : Act) : List Addr := a.L :: a.fs.map (·.1)
theorem St.funFrames (S : St W a xs ρ led h) : h.FunFrames (hideAll h a.frs) a.envs := by
  have key : ∀ (l : List Env) (fs : List Addr), l.map (·.frame) = fs.map some → (∀ e ∈ l, e.scope.kind = .function) → (∀ q ∈ fs, ∃ o es n, h.get? q = some o ∧ o.data = .dict es n) → (∀ q ∈ fs, q ∈ a.frs) →
      h.FunFrames (hideAll h a.frs) l := by
    intro l
    induction l with
    | nil => intro _ _ _ _ _; trivial
    | cons e r ih =>
      intro fs he hk hd hm
      cases fs with
      | nil => cases he
      | cons f fs =>
        simp only [List.map_cons, List.cons.injEq] at he
        obtain ⟨o, es, n, ho, hod⟩ := hd f (.head _)
        exact ⟨by rw [hk e (.head _)]; decide, ⟨f, o, he.1, hideAll_none _ (hm f (.head _)), ho, fun vs z => by rw [hod] at z; cases z⟩,
          ih fs he.2 (fun e he => hk e (.tail _ he)) (fun q hq => hd q (.tail _ hq)) fun q hq => hm q (.tail _ hq)⟩
  refine key _ _ S.ok.fr S.ok.kd (fun q hq => ?_) fun q hq => hq
  rcases List.mem_cons.mp hq with rfl | hq
  · obtain ⟨_, F, _⟩ := S.vars
    obtain ⟨o, es, n, ho, hd, _⟩ := F.ns
    exact ⟨o, es, n, ho, hd⟩
  · obtain ⟨q', hq', rfl⟩ := List.mem_map.mp hq
    obtain ⟨sl, z⟩ := S.frms q' hq'
    obtain ⟨es, n, hd⟩ := S.ok.dict q' hq'
    exact ⟨_, es, n, z, hd⟩
theorem St.g_frs (S : St W a xs ρ led h) {b : Addr} {o : Obj} (e : a.g.get? b = some o) : b ∉ a.frs := fun q => by
  obtain ⟨_, F, _⟩ := S.vars
  rcases List.mem_cons.mp q with z | q
  · exact absurd (Nat.lt_of_lt_of_le (z ▸ Heap.lt_size e) F.above) (Nat.lt_irrefl _)
  · obtain ⟨p, hp, z⟩ := List.mem_map.mp q
    have := (S.ok.new p hp).1; rw [z, e] at this; cases this
theorem St.led_frs (S : St W a xs ρ led h) {p : Addr × Obj} (hp : p ∈ led) : p.1 ∉ a.frs := fun q => by
  rcases List.mem_cons.mp q with z | q
  · exact (S.news p hp).2.1 z
  · obtain ⟨q', hq', z⟩ := List.mem_map.mp q
    exact S.apart q' hq' p hp z.symm

/-- back in a state, from what an exception's way has left -/
theorem Er.st {e C : Addr} {B : Heap} (S : St W a xs ρ led h) (hg : a.g.StaysIn B) (hl : ∀ p ∈ led, B.get? p.1 = some p.2) (hB : B.StaysIn h₁) (hs : h.UpToSlots h₁) : St W a xs ρ led h₁ := by
  obtain ⟨m, F, hm⟩ := S.vars
  refine ⟨S.ok, ⟨m, ⟨hs.ns F.ns, fun b o q => hB b o (hg b o q), F.above⟩, hm⟩, fun p hp => ⟨hB _ _ (hl p hp), (S.news p hp).2⟩, fun q hq => ?_, S.apart⟩
  obtain ⟨sl, z⟩ := S.frms q hq
  obtain ⟨es, n, hd⟩ := S.ok.dict q hq
  obtain ⟨sl', z'⟩ := hs _ _ z (fun vs y => by rw [show ({ q.2 with slots := sl } : Obj).data = q.2.data from rfl, hd] at y; cases y)
  exact ⟨sl', z'⟩

theorem leave_made {e C : Addr} {vs : List Value} {Q : Unit → Shared → Prop} (S' : St W a' ys ρ' led' h₁) (ch : Child W a a' xs ρ env) (hx : Heap.MadeExcOf h₁ h₂ e (.ref C) vs) (hfr : A.frames = some a'.envs) (hl : ∀ p ∈ led, p ∈ led')
    (k : ∀ h₃, Er W a xs ρ led e C h₃ → Q () ⟨h₃, G, D, tk, O⟩) : wpP W.M A (leaving env (.ref e)) Q E ⟨h₂, G, D, tk, O⟩ := by
  have S := ch.ret S'
  refine up (wpAny_leaves_madeW (base := hideAll h₁ a'.frs) (env := env) (outer := a.envs) (by rw [hfr, ch.envs]) ch.loc (fun b o q => of_hideAll _ q) (ch.envs ▸ S'.funFrames) hx fun h₃ t x1 _ _ x4 => k h₃ ?_)
  have up' : h₁.UpToSlots h₃ := (Heap.UpToSlots.of_keeps hx.keeps).trans x4
  refine ⟨h₁, _, _, S.onLed hl, x1, fun b o q => ?_, fun p hp => ?_, up'⟩
  · have z := ch.gg b o q
    obtain ⟨_, F', _⟩ := S'.vars
    exact hideAll_get _ (F'.keep b o z) (S'.g_frs z)
  · exact hideAll_get _ (S'.get (hl p hp)) (S'.led_frs (hl p hp))
theorem leave_on {e C : Addr} {Q : Unit → Shared → Prop} (R : Er W a' ys ρ' led' e C h₁) (ch : Child W a a' xs ρ env) (hfr : A.frames = some a'.envs) (hl : ∀ p ∈ led, p ∈ led')
    (k : ∀ h₃, Er W a xs ρ led e C h₃ → Q () ⟨h₃, G, D, tk, O⟩) : wpP W.M A (leaving env (.ref e)) Q E ⟨h₁, G, D, tk, O⟩ := by
  obtain ⟨h0, B, a0, S', hf, hg, hB, hs⟩ := R
  refine up (wpAny_leaves_onW (env := env) (outer := a.envs) (by rw [hfr, ch.envs]) ch.loc (ch.envs ▸ hf) fun h₃ x1 x2 => k h₃ ?_)
  exact ⟨h0, B, a0, (ch.ret S').onLed hl, x1, fun b o q => hg b o (ch.gg b o q), fun p hp => hB p (hl p hp), hs.trans x2⟩

/-- caught: the frame is noted, the flight ended -/
theorem caughtP {e C : Addr} {t : Sem Flow} {Q : Flow → Shared → Prop} (R : Er W a xs ρ led e C h₁) (hfr : A.frames = some a.envs) (he : env = a.envs.headD env) (hne : a.envs ≠ []) (hf : env.frame = some a.L)
    (k : ∀ h₃, Er W a xs ρ led e C h₃ → wpP W.M A t Q E ⟨h₃, G, D, tk, O⟩) :
    wpP W.M A (noteFrame (.ref e) env) (fun _ s₂ => wpP W.M A (setFlight (.ref e) none) (fun _ s₃ => wpP W.M A t Q E s₃) E s₂) E ⟨h₁, G, D, tk, O⟩ := by
  obtain ⟨h0, B, a0, S', hfl, hg, hB, hs⟩ := R
  obtain ⟨e0, outer, ee⟩ : ∃ e0 outer, a.envs = e0 :: outer := by cases z : a.envs with | nil => exact absurd z hne | cons e0 o => exact ⟨e0, o, rfl⟩
  rw [ee] at he
  simp only [List.headD_cons] at he
  subst he
  refine up (wpAny_looks_onW (by rw [hfr, ee]) hf (ee ▸ hfl) fun h₄ x1 x2 => ?_)
  refine up (wpAny_landsW x1 fun h₅ y1 y2 => k h₅ ?_)
  exact ⟨h0, B, a0, S', ee ▸ y1, hg, hB, (hs.trans x2).trans y2⟩
end
end Mine

end
section
open PySem PySem.W PySem.Calls PyProof.Rows
open Sem (wp)
set_option Elab.async false
set_option linter.unusedVariables false
namespace Mine

section
variable {W : Wd} {A : Around} {E : Value → Shared → Prop} {a a' : Act} {xs ys : List Str} {ρ ρ' : List (Option Value)} {led led' : List (Addr × Obj)} {h h₁ h₂ : Heap} {G : Array GenState} {D : Drawn} {tk : Nat} {O : OsState} {env : Env}

/-! ## raise X(..) -/
abbrev excB : List Value := [.type "Exception", .type "BaseException", .type "object"]
/-- an exception class of the text's own -/
structure Exc (W : Wd) (x : Str) (C : Addr) : Prop where
  glob : nsIn W.K mainGlobals x = some (some (.ref C))
  cls : excIn W.K C excB "Exception.__new__" = true

theorem RaiseP {x : Str} {C : Addr} {np cpos pos : Pos} {args : List Expr} {Q : Flow → Shared → Prop} (X : Exc W x C) (S : St W a xs ρ led h) (hh : A.handled = none) (hg : env.globals = mainGlobals) (hb : env.builtins = builtinsNs)
    (hk : env.scope.kind = .function) (hx : env.kindOf x = some .globalImplicit ∧ (x == ("__debug__" : Str)) = false)
    (k : wpP W.M A (spliced (backTo cpos (starEach args env))) (fun vs s₂ => ∃ ρ' led' h₂ tk₂, s₂ = ⟨h₂, G, D, tk₂, O⟩ ∧ St W a xs ρ' led' h₂ ∧ vs.length ≤ 1000 ∧ ∀ h₃ e, Heap.MadeExcOf h₂ h₃ e (.ref C) vs → E (.ref e) ⟨h₃, G, D, tk₂, O⟩) E ⟨h, G, D, tk, O⟩)
    (hp : (backTo cpos (starEach args env)).any (·.1) = false := by rfl) :
    wpP W.M A (exec (.Raise (some (.Call (.Name x np) args [] cpos)) none pos) env) Q E ⟨h, G, D, tk, O⟩ := by
  rw [arm_exec_Raise]
  refine bindP (atP ?_)
  show wpP W.M A (raiseStmt env (some (do let v ← eval (.Call (.Name x np) args [] cpos) env; standAt pos; pure v)) none) Q E _
  unfold raiseStmt
  refine bindP (bindP ?_)
  rw [arm_eval_Call_Name']
  refine bindP (NameG S (.glob X.glob) hg hb hk hx ?_)
  have facts : ∀ h', W.K.In h' → (∃ mg mb, TopRead W.p W.loose mg mb h') → ∃ bm N nm q bs hdct sn sub ab col dd k0 k1 k2 k3 k5 mN, h'.get? C = some (excClassObj nm q C N bs bm hdct sn sub ab col dd k0 k1 k2 k3 k5 "Exception.__new__") ∧ h'.Ns N mN ∧ mN "__init__" = none ∧ OwnTail h' excB bm :=
    fun h' hX ⟨mg, mb, T⟩ => (own_of_in hX T X.glob X.cls).obj
  have top : ∀ {ρ' led' h'}, St W a xs ρ' led' h' → ∃ mg mb, TopRead W.p W.loose mg mb h' := fun S' => let ⟨mg, mb, T⟩ := S'.ok.T; let ⟨_, F, _⟩ := S'.vars; ⟨mg, mb, T.keeps F.keep⟩
  refine callWithP (P := fun h' => W.K.In h' ∧ ∃ mg mb, TopRead W.p W.loose mg mb h') (fun h' ⟨hX, hT⟩ => ?_) (monoP k (fun vs s₂ ⟨ρ', led', h₂, tk₂, e, S', hl, k'⟩ => ?_) fun _ _ x => x) hp
  · obtain ⟨bm, N, nm, q, bs, hdct, sn, sub, ab, col, dd, k0, k1, k2, k3, k5, mN, hC, hn, hni, T⟩ := facts h' hX hT
    refine ⟨.machine, .inr (.inl rfl), fun A Q E s kk q => ?_⟩
    obtain ⟨hh, g, d, t, os⟩ := s
    exact wpAny_keeperOf_exc (kk _ _ hC) q
  · subst e
    refine ⟨⟨S'.X, top S'⟩, ?_⟩
    obtain ⟨bm, N, nm, q, bs, hdct, sn, sub, ab, col, dd, k0, k1, k2, k3, k5, mN, hC, hn, hni, T⟩ := facts h₂ S'.X (top S')
    refine up (wpAny_call_exc_subT (hrest := Nat.le_trans hl (by decide)) PySem.F.excBase_Exception T hC hn hni fun h₃ e hm => ?_)
    refine bindP (atP (pureP ?_))
    obtain ⟨t, ht, _, _⟩ := hm.there
    show wpP W.M A (raiseStmt env (some (pure (.ref e))) none) Q E _
    exact up (wpAny_raiseStmt_made_sub (T.hasType PySem.F.excBase_Exception.hasBase) hh (wpAny_pure ⟨e, t, rfl, hm.keeps _ _ hC, ht, k' h₃ e hm⟩))

/-! ## try .. except X: -/
theorem TryP {body : List Stmt} {h₀ : ExceptHandler} {hs : List ExceptHandler} {pos : Pos} {s : Shared} {M : Model} {Q : Flow → Shared → Prop}
    (k : wpP M A (execs body env) Q (fun e s₁ => wpP M A (noteFrame e env) (fun _ s₂ => wpP M A (setFlight e none) (fun _ s₃ => wpP M A (handleBy e env (h₀ :: hs)) Q E s₃) E s₂) E s₁) s) :
    wpP M A (exec (.Try body (h₀ :: hs) [] [] pos) env) Q E s := by
  rw [arm_exec_Try]
  refine bindP (atP ?_)
  unfold tryStmt
  simp only [List.isEmpty_nil, if_true, List.isEmpty_cons, Bool.false_and, Bool.false_eq_true, if_false]
  refine bindP (attemptP (monoP k (fun f s₁ h₁ => ?_) fun e s₁ h₁ => ?_))
  · cases f <;> first | exact pureP h₁ | exact execs_nilP h₁
  · exact bindP (monoP h₁ (fun _ _ h₂ => bindP h₂) fun _ _ x => x)

theorem excM {e C C₂ : Addr} {b : Bool} {oe : Obj} {s : Shared} {Q : Bool → Shared → Prop} (X : W.K.In s.heap) (he : s.heap.get? e = some oe) (hc : oe.cls = .ref C) (h1 : instIn W.K (.ref C₂) (.type "tuple") = some false) (h2 : isClsIn W.K C₂ = true)
    (h3 : subIn W.K (.ref C₂) (.type "BaseException") = some true) (h4 : subIn W.K (.ref C) (.ref C₂) = some b) (q : Q b s) : wpAny W.M A (excMatches (.ref e) (.ref C₂)) Q E s := by
  unfold excMatches
  refine wpAny_bind ((looks_instIn X h1).here ?_)
  simp only [Bool.false_eq_true, if_false]
  refine wpAny_bind (wpAny_pure ?_)
  rw [List.forIn_cons]
  refine wpAny_bind (wpAny_bind ?_)
  unfold isExcClass
  obtain ⟨cd, hcd⟩ := Option.isSome_iff_exists.mp h2
  unfold clsIn at hcd
  split at hcd
  · rename_i oc od cd' sl hC
    refine wpAny_bind (wpAny_bind (m := isType (.ref C₂)) (wpAny_bind (wpAny_loadPart (X _ _ hC) (wpAny_pure ?_))))
    dsimp only
    rw [if_pos rfl]
    refine (looks_subIn X h3).here ?_
    simp only [Bool.not_true, Bool.false_eq_true, if_false]
    refine wpAny_pure (wpAny_pure ?_)
    refine wpAny_bind (m := typeOf (.ref e)) (wpAny_bind (wpAny_loadPart he (wpAny_pure ?_)))
    rw [hc, List.forIn_cons]
    refine wpAny_bind (wpAny_bind (wpAny_bind ((looks_subIn X h4).here ?_)))
    cases b with
    | true => simp only [if_true]; exact wpAny_pure (wpAny_pure (wpAny_pure q))
    | false =>
      simp only [Bool.false_eq_true, if_false]
      exact wpAny_pure (wpAny_pure (wpAny_pure q))
  · cases hcd

theorem handTestP {e : Value} {t : Expr} {pos : Pos} {R : Result → Shared → Prop} {s : Shared}
    (k : wpP W.M A (eval t env) (fun c s₁ => wpP W.M A (excMatches e c) (fun b s₂ => R (.ok (if b then .brk else .next)) s₂) (fun _ _ => False) s₁) (fun _ _ => False) s) :
    codeP W.M A (.handlers e [.ExceptHandler (some t) none [] pos] env) R s := by
  refine treeC rfl ?_
  show wpP _ A (do return Fin.done (← (handleWith e env [.ExceptHandler (some t) none [] pos]).onRaise (fun x => do noteFrame x env; theTreesLotGoes x))) _ _ s
  refine bindP (onRaiseP ?_)
  unfold handleWith
  exact bindP (atP (bindP (monoP k (fun c s₁ h₁ => bindP (atP (bindP (monoP h₁ (fun b s₂ h₂ => pureP (pureP h₂)) fun _ _ x => x.elim)))) fun _ _ x => x.elim)))
theorem handSuiteP {e : Value} {b₀ : Stmt} {body : List Stmt} {pos : Pos} {R : Result → Shared → Prop} {s : Shared}
    (k : wpP W.M A (setFlight e none) (fun _ s₁ => wpP W.M A (execs (b₀ :: body) env) (fun f s₂ => R (.ok f) s₂) (fun _ _ => False) s₁) (fun _ _ => False) s) :
    codeP W.M A (.handlers e [.ExceptHandler none none (b₀ :: body) pos] env) R s := by
  refine treeC rfl ?_
  show wpP _ A (do return Fin.done (← (handleWith e env [.ExceptHandler none none (b₀ :: body) pos]).onRaise (fun x => do noteFrame x env; theTreesLotGoes x))) _ _ s
  refine bindP (onRaiseP ?_)
  unfold handleWith
  exact bindP (atP (bindP (monoP k (fun _ s₁ h₁ => monoP h₁ (fun f s₂ h₂ => pureP h₂) fun _ _ x => x.elim) fun _ _ x => x.elim)))

theorem runOwnP {M : Model} {c : Code} {hd : Option Value} {Q : Flow → Shared → Prop} {s : Shared}
    (hc : codeP M (A.mark hd) c (fun r s' => match r with | .ok f => Q f s' | .error _ => False) s) (hnb : hd ≠ some byPass := by intro x; cases x) :
    wpP M A (runOwn c env hd) Q E s := by
  unfold runOwn
  refine onRaiseP (runP (monoC hc fun r s' z => ?_) hnb)
  rcases r with e | f
  · exact z.elim
  · exact z

theorem handP {e : Addr} {t : Expr} {b₀ : Stmt} {suite : List Stmt} {pos : Pos} {rest : List ExceptHandler} {Q : Flow → Shared → Prop} {s : Shared}
    (k : wpP W.M (A.mark (some (.ref e))) (eval t env) (fun c s₁ => wpP W.M (A.mark (some (.ref e))) (excMatches (.ref e) c) (fun b s₂ =>
      if b then wpP W.M (A.mark (some (.ref e))) (setFlight (.ref e) none) (fun _ s₃ => wpP W.M (A.mark (some (.ref e))) (execs (b₀ :: suite) env) Q (fun _ _ => False) s₃) (fun _ _ => False) s₂
      else wpP W.M A (handleBy (.ref e) env rest) Q E s₂) (fun _ _ => False) s₁) (fun _ _ => False) s) :
    wpP W.M A (handleBy (.ref e) env (.ExceptHandler (some t) none (b₀ :: suite) pos :: rest)) Q E s := by
  rw [handleBy]
  have hnb : (some (Value.ref e) : Option Value) ≠ some byPass := by intro q; cases q
  let R : Result → Shared → Prop := fun (r : Result) (s' : Shared) => match r with
      | .ok .brk => wpP W.M (A.mark (some (.ref e))) (setFlight (.ref e) none) (fun _ s₃ => wpP W.M (A.mark (some (.ref e))) (execs (b₀ :: suite) env) Q (fun _ _ => False) s₃) (fun _ _ => False) s'
      | .ok _ => wpP W.M A (handleBy (.ref e) env rest) Q E s'
      | .error _ => False
  have k' : codeP W.M (A.mark (some (.ref e))) (.handlers (.ref e) [.ExceptHandler (some t) none [] pos] env) R s :=
    handTestP (monoP k (fun c s₁ h₁ => monoP h₁ (fun b s₂ h₂ => by cases b <;> exact h₂) fun _ _ x => x) fun _ _ x => x)
  refine bindP (holdP (runOwnP (monoC k' fun r s' z => ?_) hnb))
  rcases r with x | f
  · exact z
  · cases f with
    | brk =>
      refine bindP (pureP ?_)
      simp only [Bool.not_true, Bool.false_eq_true, if_false]
      have k₂ : codeP W.M (A.mark (some (.ref e))) (.handlers (.ref e) [.ExceptHandler none none (b₀ :: suite) pos] env) (fun r s₂ => match r with | .ok f => Q f s₂ | .error _ => False) s' := handSuiteP z
      refine bindP (holdP (runOwnP (monoC k₂ fun r s₂ z => ?_) hnb))
      rcases r with x | f
      · exact z
      · exact pureP z
    | _ =>
      refine bindP (pureP ?_)
      simp only [Bool.not_false, if_true]
      exact z

/-- a clause of the exception's own class, or of one above it (b), or of another (not b) -/
theorem clauseP {e C C₂ : Addr} {b : Bool} {x : Str} {np pos : Pos} {b₀ : Stmt} {suite : List Stmt} {rest : List ExceptHandler} {Q : Flow → Shared → Prop} (R : Er W a xs ρ led e C h) (hg : env.globals = mainGlobals) (hbi : env.builtins = builtinsNs)
    (hk : env.scope.kind = .function) (hx : env.kindOf x = some .globalImplicit ∧ (x == ("__debug__" : Str)) = false) (gx : nsIn W.K mainGlobals x = some (some (.ref C₂)))
    (h1 : instIn W.K (.ref C₂) (.type "tuple") = some false) (h2 : isClsIn W.K C₂ = true) (h3 : subIn W.K (.ref C₂) (.type "BaseException") = some true) (h4 : subIn W.K (.ref C) (.ref C₂) = some b)
    (kt : b = true → ∀ h', St W a xs ρ led h' → wpP W.M (A.mark (some (.ref e))) (execs (b₀ :: suite) env) Q (fun _ _ => False) ⟨h', G, D, tk, O⟩)
    (kf : b = false → wpP W.M A (handleBy (.ref e) env rest) Q E ⟨h, G, D, tk, O⟩) :
    wpP W.M A (handleBy (.ref e) env (.ExceptHandler (some (.Name x np)) none (b₀ :: suite) pos :: rest)) Q E ⟨h, G, D, tk, O⟩ := by
  obtain ⟨h0, B, a0, S0, hfl, hgB, hB, hs⟩ := R
  have S : St W a xs ρ led h := Er.st (e := e) (C := C) S0 hgB hB hfl.1 hs
  refine handP (NameG S (.glob gx) hg hbi hk hx ?_)
  obtain ⟨oe, hoe, hcls⟩ := hfl.there
  refine up (excM S.X hoe hcls h1 h2 h3 h4 ?_)
  cases b with
  | true =>
    rw [if_pos rfl]
    obtain ⟨f1, f2, f3, f4⟩ := hfl
    refine up (wpAny_setFlight_noneW f1 f3 f4.at fun h' k1 k2 k3 k4 => ?_)
    exact kt rfl h' (Er.st (e := e) (C := C) S0 hgB hB k1 (hs.trans fun b o hb hn => ⟨o.slots, k4 b o hb hn⟩))
  | false =>
    rw [if_neg (by decide)]
    exact kf rfl
end
end Mine

end
section
open PySem PySem.W PySem.Calls PyProof.Rows
open Sem (wp)
set_option Elab.async false
set_option linter.unusedVariables false
namespace Mine

section
variable {W : Wd} {A : Around} {E : Value → Shared → Prop} {a a' : Act} {xs ys : List Str} {ρ ρ' : List (Option Value)} {led led' : List (Addr × Obj)} {h h₁ h₂ : Heap} {G : Array GenState} {D : Drawn} {tk : Nat} {O : OsState} {env : Env}

/-- one object of the ledger has turned, by a rule that tells no more than that -/
theorem St.change {d : Addr} {o o' : Obj} {h' : Heap} (S : St W a xs ρ led h) (md : (d, o) ∈ led) (k : ∀ b x, b ≠ d → h.get? b = some x → h'.get? b = some x) (e : h'.get? d = some o') : St W a xs ρ (updL d o' led) h' := by
  obtain ⟨m, F, hm⟩ := S.vars
  have Dd := S.news _ md
  obtain ⟨oL, es, ep, hL, r⟩ := F.ns
  refine ⟨S.ok, ⟨m, ⟨⟨oL, es, ep, k _ _ (Ne.symm Dd.2.1) hL, r⟩, fun b x q => k b x (fun z => ?_) (F.keep b x q), F.above⟩, hm⟩, fun p hp => ?_, fun q hq => ?_, fun q hq p hp => ?_⟩
  · have := Dd.2.2; rw [← z, q] at this; cases this
  · rcases mem_updL hp with rfl | ⟨hp, n⟩
    · exact ⟨e, Dd.2⟩
    · exact ⟨k _ _ n (S.news p hp).1, (S.news p hp).2⟩
  · obtain ⟨sl, z⟩ := S.frms q hq
    exact ⟨sl, k _ _ (Ne.symm (S.apart q hq (d, o) md)) z⟩
  · rcases mem_updL hp with rfl | ⟨hp, n⟩
    · exact S.apart q hq (d, o) md
    · exact S.apart q hq p hp

theorem St.lose {d : Addr} {o : Obj} {h' : Heap} (S : St W a xs ρ led h) (md : (d, o) ∈ led) (k : ∀ b x, b ≠ d → h.get? b = some x → h'.get? b = some x) : St W a xs ρ (led.filter fun p => p.1 != d) h' := by
  obtain ⟨m, F, hm⟩ := S.vars
  have Dd := S.news _ md
  obtain ⟨oL, es, ep, hL, r⟩ := F.ns
  have mf : ∀ p ∈ led.filter (fun p => p.1 != d), p ∈ led ∧ p.1 ≠ d := fun p hp => ⟨(List.mem_filter.mp hp).1, by simpa using (List.mem_filter.mp hp).2⟩
  refine ⟨S.ok, ⟨m, ⟨⟨oL, es, ep, k _ _ (Ne.symm Dd.2.1) hL, r⟩, fun b x q => k b x (fun z => ?_) (F.keep b x q), F.above⟩, hm⟩, fun p hp => ?_, fun q hq => ?_, fun q hq p hp => ?_⟩
  · have := Dd.2.2; rw [← z, q] at this; cases this
  · exact ⟨k _ _ (mf p hp).2 (S.news p (mf p hp).1).1, (S.news p (mf p hp).1).2⟩
  · obtain ⟨sl, z⟩ := S.frms q hq
    exact ⟨sl, k _ _ (Ne.symm (S.apart q hq (d, o) md)) z⟩
  · exact S.apart q hq p (mf p hp).1

/-- an exception in a loop's turn -/
def NoteE (W : Wd) (A : Around) (env : Env) (R : Result → Shared → Prop) (x : Value) (s : Shared) : Prop :=
  wpP W.M A (do noteFrame x env; theTreesLotGoes x) (fun _ s'' => R (.error x) s'') (fun e s'' => R (.error e) s'') s
theorem treesP {x : Value} {M : Model} {s : Shared} {Q : Unit → Shared → Prop} (q : Q () s) : wpP M A (theTreesLotGoes x) Q E s := by
  unfold theTreesLotGoes
  refine bindP (stackP fun st _ => ?_)
  show wpP M A (do standAt theWindowsPlace; holding [x] point; standAt _) Q E s
  exact bindP (atP (bindP (holdP (pointP (atP q)))))
/-- .. and behind the loop -/
def CameE (W : Wd) (A : Around) (env : Env) (E : Value → Shared → Prop) (x : Value) (s : Shared) : Prop :=
  wpP W.M A (do
    if (← field x 1) == .none then unsupported "frame.own-activation:exception-without-traceback"
    setFlight x env.frame) (fun _ s'' => E x s'') E s

theorem runOwnE {c : Code} {Q : Flow → Shared → Prop} {s : Shared} (hc : codeP W.M A c (fun r s' => match r with | .ok f => Q f s' | .error x => CameE W A env E x s') s) : wpP W.M A (runOwn c env none) Q E s := by
  unfold runOwn
  refine onRaiseP (runP (monoC hc fun r s' z => ?_))
  rcases r with e | f
  · unfold CameE at z; exact z
  · exact z

theorem whileLoopP {test : Expr} {body : List Stmt} {R : Result → Shared → Prop} (inv : Nat → List (Option Value) → List (Addr × Obj) → Prop)
    (turn : ∀ n ρ led h tk, inv n ρ led → St W a xs ρ led h → wpP W.M A (isTrue test env (eval test env)) (fun b s₂ =>
      if b then wpP W.M A (execs body env) (fun f s₃ => match f with
          | .next => ∃ m ρ' led' h' tk', m < n ∧ s₃ = ⟨h', G, D, tk', O⟩ ∧ St W a xs ρ' led' h' ∧ inv m ρ' led'
          | .ret v => R (.ok (.ret v)) s₃
          | _ => False) (fun _ _ => False) s₂
      else R (.ok .next) s₂) (fun _ _ => False) ⟨h, G, D, tk, O⟩) :
    ∀ n ρ led h tk, inv n ρ led → St W a xs ρ led h → codeP W.M A (.whileLoop test body [] env) R ⟨h, G, D, tk, O⟩ := by
  intro n
  induction n using Nat.strongRecOn with
  | ind n ih =>
    intro ρ led h tk hi S
    refine treeC rfl ?_
    show wpP _ A ((whileTurn test body [] env).onRaise (fun x => do noteFrame x env; theTreesLotGoes x)) _ _ _
    refine onRaiseP ?_
    unfold whileTurn
    refine bindP (monoP (turn n ρ led h tk hi S) (fun b s₂ h₂ => ?_) fun _ _ x => x.elim)
    cases b with
    | false =>
      simp only [Bool.false_eq_true, if_false] at h₂ ⊢
      exact bindP (execs_nilP (pureP h₂))
    | true =>
      simp only [if_true] at h₂ ⊢
      refine bindP (monoP h₂ (fun f s₃ h₃ => ?_) fun _ _ x => x.elim)
      cases f with
      | next =>
        obtain ⟨m, ρ', led', h', tk', lt, rfl, S', hi'⟩ := h₃
        exact pureP ⟨rfl, ih m lt ρ' led' h' tk' hi' S'⟩
      | ret v => exact pureP h₃
      | brk => exact h₃.elim
      | cont => exact h₃.elim

theorem WhileP {test : Expr} {body : List Stmt} {pos : Pos} {Q : Flow → Shared → Prop} (inv : Nat → List (Option Value) → List (Addr × Obj) → Prop) (n : Nat) (S : St W a xs ρ led h) (hi : inv n ρ led)
    (turn : ∀ n ρ led h tk, inv n ρ led → St W a xs ρ led h → wpP W.M A (isTrue test env (eval test env)) (fun b s₂ =>
      if b then wpP W.M A (execs body env) (fun f s₃ => match f with
          | .next => ∃ m ρ' led' h' tk', m < n ∧ s₃ = ⟨h', G, D, tk', O⟩ ∧ St W a xs ρ' led' h' ∧ inv m ρ' led'
          | .ret v => Q (.ret v) s₃
          | _ => False) (fun _ _ => False) s₂
      else Q .next s₂) (fun _ _ => False) ⟨h, G, D, tk, O⟩) : wpP W.M A (exec (.While test body [] pos) env) Q E ⟨h, G, D, tk, O⟩ := by
  rw [arm_exec_While]
  refine bindP (atP (runOwnE ?_))
  refine whileLoopP (R := fun r s' => match r with | .ok f => Q f s' | .error x => CameE W A env E x s') inv (fun n ρ led h tk hi S => monoP (turn n ρ led h tk hi S) (fun b s₂ h₂ => ?_) fun _ _ x => x) n ρ led h tk hi S
  cases b with
  | false => exact h₂
  | true => exact monoP h₂ (fun f s₃ h₃ => by cases f <;> exact h₃) fun _ _ x => x

theorem forLoopP {I : Addr} {fp : List Addr} {n : Nat} {P : Nat → Value → Prop} {Stt : Nat → Heap → Prop} {target : Expr} {body : List Stmt} {R : Result → Shared → Prop} (Wk : Walks W.prog W.w A I fp [I] n P Stt) (ic : Value)
    (hic : ∀ i h, Stt i h → ∃ o, h.get? I = some o ∧ o.cls = ic) (hlet : ∀ i v s (Q : Unit → Shared → Prop) E, Stt i s.heap → Q () s → wpP W.M A (letOwnedTupleGo target (.ref I) v) Q E s)
    (inv : Nat → List (Option Value) → List (Addr × Obj) → Prop) (hst : ∀ i ρ led led', inv i ρ led → (∀ x o, (x, o) ∈ led → x ≠ I → (x, o) ∈ led') → inv i ρ led')
    (turn : ∀ i v ρ led h tk, i < n → P i v → inv i ρ led → (∀ b ∈ fp, ∃ o, (b, o) ∈ led) → (∃ o, (I, o) ∈ led ∧ o.cls = ic) → St W a xs ρ led h →
      wpP W.M A (assign target env v) (fun _ s₁ => wpP W.M A (execs body env) (fun f s₂ => match f with
          | .next => ∃ ρ' led' h' tk', s₂ = ⟨h', G, D, tk', O⟩ ∧ St W a xs ρ' led' h' ∧ inv (i + 1) ρ' led' ∧ ∀ b ∈ fp, ∀ o, (b, o) ∈ led → (b, o) ∈ led'
          | .ret v => R (.ok (.ret v)) s₂
          | _ => False) (NoteE W A env R) s₁) (NoteE W A env R) ⟨h, G, D, tk, O⟩)
    (fin : ∀ ρ led h tk, inv n ρ led → St W a xs ρ led h → R (.ok .next) ⟨h, G, D, tk, O⟩) :
    ∀ k i ρ led h tk, i + k = n → St W a xs ρ led h → Stt i h → inv i ρ led → (∀ b ∈ fp, ∃ o, (b, o) ∈ led) → I ∈ fp → codeP W.M A (.forLoop target (.ref I) body [] env) R ⟨h, G, D, tk, O⟩ := by
  have step : ∀ {i ρ led h h'}, St W a xs ρ led h → Stt i h → inv i ρ led → (∃ o, (I, o) ∈ led) → (∀ b o, b ∉ [I] → h.get? b = some o → h'.get? b = some o) → (∃ o', h'.get? I = some o') →
      ∃ o', St W a xs ρ (updL I o' led) h' ∧ inv i ρ (updL I o' led) ∧ ∀ b o, (b, o) ∈ led → ∃ o, (b, o) ∈ updL I o' led := by
    intro i ρ led h h' S st hi ⟨o, mI⟩ keep ⟨o', e'⟩
    refine ⟨o', S.change mI (fun b x n => keep b x (by simpa using n)) e', hst _ _ _ _ hi fun x ox m hc => updL_ne m hc, fun b ob m => ?_⟩
    · by_cases z : b = I
      · subst z; exact ⟨_, updL_self m⟩
      · exact ⟨_, updL_ne m z⟩
  intro k
  induction k with
  | zero =>
    intro i ρ led h tk hik S st hi hfp hI
    obtain rfl : i = n := by omega
    refine treeC rfl ?_
    show wpP _ A ((forTurn target (.ref I) body [] env).onRaise (fun x => do noteFrame x env; theTreesLotGoes x)) _ _ _
    refine onRaiseP ?_
    unfold forTurn
    refine bindP (atP (bindP (onRaiseP (up (Wk.done _ _ _ st fun h' tk' keep => ?_)))))
    refine pureP ⟨rfl, treeC rfl ?_⟩
    show wpP _ A (do return Fin.done (← (execs [] env).onRaise (fun x => do noteFrame x env; theTreesLotGoes x))) _ _ _
    refine bindP (onRaiseP (execs_nilP (pureP ?_)))
    obtain ⟨o, mI⟩ := hfp I hI
    have S' := S.lose mI fun b x n => keep b x (by simpa using n)
    exact fin _ _ _ _ (hst _ _ _ _ hi fun x ox m hc => List.mem_filter.mpr ⟨m, by simpa using hc⟩) S'
  | succ k ih =>
    intro i ρ led h tk hik S st hi hfp hI
    refine treeC rfl ?_
    show wpP _ A ((forTurn target (.ref I) body [] env).onRaise (fun x => do noteFrame x env; theTreesLotGoes x)) _ _ _
    refine onRaiseP ?_
    unfold forTurn
    refine bindP (atP (bindP (onRaiseP (up (Wk.item i _ _ _ (by omega) st fun v h' tk' hv st' keep => ?_)))))
    obtain ⟨oi, e, eic⟩ := hic _ _ st'
    obtain ⟨o', S', hi', hm⟩ := step S st hi (hfp I hI) keep ⟨oi, e⟩
    have hIc : ∃ o, (I, o) ∈ updL I o' led ∧ o.cls = ic := by
      obtain ⟨o, mI⟩ := hfp I hI
      have m := updL_self (o' := o') mI
      have := S'.get m
      rw [e] at this; cases this
      exact ⟨_, m, eic⟩
    refine bindP (hlet _ v _ _ _ st' (bindP (monoP (turn i v _ _ h' tk' (by omega) hv hi' (fun b hb => let ⟨o, m⟩ := hfp b hb; hm b o m) hIc S') (fun _ s₁ h₁ => bindP (monoP h₁ (fun f s₂ h₂ => ?_) fun x s₂ z => z)) fun x s₂ z => z)))
    cases f with
    | next =>
      obtain ⟨ρ', led', h'', tk'', rfl, S'', hi'', hf⟩ := h₂
      refine pureP ⟨rfl, ih (i + 1) ρ' led' h'' tk'' (by omega) S'' (Wk.frame _ _ _ st' fun b hb ob eb => ?_) hi'' (fun b hb => ?_) hI⟩
      · obtain ⟨o, m⟩ := hfp b hb
        obtain ⟨o₂, m₂⟩ := hm b o m
        rw [S'.get m₂] at eb; cases eb
        exact S''.get (hf b hb _ m₂)
      · obtain ⟨o, m⟩ := hfp b hb
        obtain ⟨o₂, m₂⟩ := hm b o m
        exact ⟨_, hf b hb _ m₂⟩
    | ret v => exact pureP h₂
    | brk => exact h₂.elim
    | cont => exact h₂.elim

theorem ForP {target iter : Expr} {body : List Stmt} {pos : Pos} {s : Shared} {Q : Flow → Shared → Prop}
    (k : wpP W.M A (eval iter env) (fun xv s₁ => wpP W.M A (pyIter xv) (fun it s₂ => codeP W.M A (.forLoop target it body [] env) (fun r s' => match r with | .ok f => Q f s' | .error x => CameE W A env E x s') s₂) E s₁) E s)
    (hs : ∀ x, foldedSetIterable iter env x = pure x := by intro _; rfl) : wpP W.M A (exec (.For target iter body [] pos) env) Q E s := by
  rw [arm_exec_For]
  refine bindP (atP (bindP (monoP k (fun xv s₁ h₁ => ?_) fun _ _ x => x)))
  rw [hs]
  exact bindP (pureP (bindP (atP (bindP (holdP (monoP h₁ (fun it s₂ h₂ => runOwnE h₂) fun _ _ x => x))))))

theorem came_held {e L : Addr} {cls a0 : Value} {B : Heap} {l : List Env} {s : Shared} {Q : Unit → Shared → Prop} {M : Model} (hf : env.frame = some L) (hh : Heap.HeldW B l e cls a0 L s.heap)
    (k : ∀ h', Heap.HeldW B l e cls a0 L h' → s.heap.UpToSlots h' → Q () { s with heap := h' }) :
    wpAny M A (do
      if (← field (.ref e) 1) == .none then unsupported "frame.own-activation:exception-without-traceback"
      setFlight (.ref e) env.frame) Q E s := by
  obtain ⟨f1, f2, f3, oe, vs, T, oT, ts, he, hcls, hd, h1, hnT, hTe, hT, hdT, h3⟩ := hh
  have hsz3 : 3 < ts.size := (Array.getElem?_eq_some_iff.mp h3).1
  refine wpAny_bind (wpAny_field he hd h1 ?_)
  rw [if_neg (show ¬ ((Value.ref T == Value.none) = true) from by simp)]
  show wpAny M A (setFlight (.ref e) env.frame) Q E s
  rw [hf]
  unfold setFlight
  refine wpAny_bind (wpAny_field he hd h1 ?_)
  rw [if_pos (show (Value.ref T != Value.none) = true from by simp)]
  have other : ∀ b, b ≠ T → (s.heap.update T (Obj.mapFields (·.setIfInBounds 3 ((some L : Option Addr).elim Value.none fun f => rawInt f)))).get? b = s.heap.get? b :=
    fun b hb => Heap.get?_update_other _ _ (Ne.symm hb)
  have noRecord : ∀ b o, s.heap.get? b = some o → (∀ vs, o.data ≠ .fields vs) → b ≠ T := fun b o hb hnf q => by
    rw [q, hT] at hb; injection hb with hb; subst hb; exact hnf ts hdT
  refine wpAny_setField hT hdT hsz3 (k _ ⟨fun b o hbo => (other b fun q => by rw [q, hnT] at hbo; cases hbo).trans (f1 b o hbo), f2, f3.of_keeps fun b o hb hnf => ⟨o, (other b (noRecord b o hb hnf)).trans hb, rfl⟩, ?_⟩ fun b o hb hn => ⟨o.slots, (other b (noRecord b o hb hn)).trans hb⟩)
  exact ⟨oe, vs, T, _, _, (other e (Ne.symm hTe)).trans he, hcls, hd, h1, hnT, hTe, Heap.get?_update_self _ hT (Obj.isFreed_of_fields (Obj.data_mapFields hdT _)), Obj.data_mapFields hdT _, by simp [hsz3]⟩

/-- raised in a loop's turn, on its way out of the def -/
theorem leave_loop {e C : Addr} {vs : List Value} {Qn : Flow → Shared → Prop} {R : Result → Shared → Prop} {E₂ : Value → Shared → Prop} (S' : St W a' ys ρ' led' h₁) (ch : Child W a a' xs ρ env) (hx : Heap.MadeExcOf h₁ h₂ e (.ref C) vs) (hfr : A.frames = some a'.envs) (hl : ∀ p ∈ led, p ∈ led')
    (k : ∀ h₃, Er W a xs ρ led e C h₃ → R (.error (.ref e)) ⟨h₃, G, D, tk, O⟩) :
    NoteE W A env (fun r s' => match r with | .ok f => Qn f s' | .error x => CameE W A env (fun e s' => wpP W.M A (leaving env e) (fun _ s'' => R (.error e) s'') E₂ s') x s') (.ref e) ⟨h₂, G, D, tk, O⟩ := by
  have S := ch.ret S'
  obtain ⟨t, he, htn, ht⟩ := hx.there
  have hkb : (hideAll h₁ a'.frs).StaysIn h₁ := fun b o q => of_hideAll _ q
  have hen : (hideAll h₁ a'.frs).get? e = none := by
    cases hq : (hideAll h₁ a'.frs).get? e with
    | none => rfl
    | some o' => have := hkb e o' hq; rw [hx.new] at this; cases this
  have hff : h₂.FunFrames (hideAll h₁ a'.frs) (env :: a.envs) := (ch.envs ▸ S'.funFrames).of_keeps fun b o hb _ => ⟨o, hx.keeps b o hb, rfl⟩
  unfold NoteE noteFrame
  simp only [ch.loc]
  refine bindP (bindP (up (wpAny_field (x := .none) he rfl rfl ?_)))
  rw [if_neg (by decide)]
  refine up (wpAny_entryW (a0 := .ref t) (by rw [hfr, ch.envs]) hff ch.loc he (fun b o hb => hx.keeps b o (hkb b o hb)) hen rfl (by simp) rfl fun h₄ hN => ?_)
  obtain ⟨n1, n2, n3, n4⟩ := hN
  refine treesP ?_
  unfold CameE
  have hH : Heap.HeldW (hideAll h₁ a'.frs) (env :: a.envs) e (.ref C) (.ref t) a'.L h₄ := ⟨n1, hen, n2, n3⟩
  refine up (came_held ch.loc hH fun h₅ hH₅ u₅ => ?_)
  unfold leaving
  refine bindP (up (wpAny_noteFrame_againW ch.loc hH₅.2.2.2 ?_))
  refine up (wpAny_landsW hH₅ fun h₆ hfl u₆ => k h₆ ?_)
  obtain ⟨k1, k2, ⟨_, _, k3⟩, k4⟩ := hfl
  have n4' : h₂.UpToSlots h₄ := n4
  refine ⟨h₁, _, _, S.onLed hl, ⟨k1, k2, k3, k4⟩, fun b o q => ?_, fun p hp => ?_, (((Heap.UpToSlots.of_keeps hx.keeps).trans n4').trans u₅).trans u₆⟩
  · have z := ch.gg b o q
    obtain ⟨_, F', _⟩ := S'.vars
    exact hideAll_get _ (F'.keep b o z) (S'.g_frs z)
  · exact hideAll_get _ (S'.get (hl p hp)) (S'.led_frs (hl p hp))
end
end Mine

end
section
set_option maxRecDepth 100000
open PySem PySem.W PySem.Calls PyProof.Rows
open Sem (wp)
set_option Elab.async false
set_option linter.unusedVariables false
namespace Mine

section
variable {W : Wd} {A : Around} {E : Value → Shared → Prop} {a : Act} {xs : List Str} {ρ : List (Option Value)} {led : List (Addr × Obj)} {h : Heap} {G : Array GenState} {D : Drawn} {tk : Nat} {O : OsState} {env : Env}

/-! ## A built-in called -/
theorem okB {id : String} {args : Args} (e : badIds.contains id = false) : okCode (.builtin id args) = true := by simp only [okCode, e, Bool.not_false]
theorem ok_tc : badIds.contains "type.__call__" = false := by decide +kernel
theorem q_tc (args : Args) : (Code.builtin "type.__call__" args).quiet = true := Code.quiet_builtin _ (by decide +kernel)
theorem builtC {id : String} {args : Args} {b : Builtin} {R : Result → Shared → Prop} {s : Shared} (ok : okCode (.builtin id args) = true) (hq : (Code.builtin id args).quiet = true) (hb : entryFor table id = some b)
    (k : wpP W.M A.in1 (checkBuiltinCall id args) (fun _ s₁ => wpP W.M (A.under (.builtin id args)) (b args)
      (fun fin s' => match fin with | .done f => R (.ok f) s' | .again c' => c'.quiet = true ∧ codeP W.M A c' R s') (fun e s' => R (.error e) s') s₁)
      (fun e s' => R (.error e) s') s) : codeP W.M A (.call (.builtin id) args) R s := by
  refine treeC rfl ?_
  show wpP _ A.in1 (do checkBuiltinCall id args; again (.builtin id args)) _ _ s
  refine bindP (monoP k (fun _ s₁ h₁ => pureP (And.intro hq (treeC ok ?_))) fun _ _ h' => h')
  show wpP _ _ (match entryFor table id with | some b => b args | none => unsupported ((withoutEnding? id "#data").getD id)) _ _ s₁
  rw [hb]; exact h₁

/-! ## Instances of the text's own classes -/
theorem makeP {C fI : Addr} {rest : List Value} {Q : Value → Shared → Prop} (S : St W a xs ρ led h) (hm : makesIn W.K C = true) (hi : findIn W.K (.ref C) "__init__" = some (some (.ref fI))) (hf : typeIn W.K (.ref fI) = some (.type "function"))
    (k : ∀ x dx h' tk', St W a xs ρ ((x, instObj C dx) :: (dx, dictOf [] 0) :: led) h' → (∀ p ∈ led, p.1 ≠ x ∧ p.1 ≠ dx) →
      codeP W.M (A.under (.builtin "type.__call__" ⟨.ref C :: rest, []⟩)) (.call (.ref fI) ⟨.ref x :: rest, []⟩) (fun r s' => match r with | .ok (.ret v) => v = .none ∧ Q (.ref x) s' | .ok _ => False | .error e => E e s') ⟨h', G, D, tk', O⟩) :
    wpP W.M A (call (.ref C) rest) Q E ⟨h, G, D, tk, O⟩ := by
  have Y := makes_of (M := W.M) S.X hm
  have Y' := Y
  obtain ⟨⟨oc, od, cd, sl, hC, e1, e2, e4⟩, made, base, self, top, call, typ⟩ := Y
  refine callP (treeC rfl ?_)
  show wpP _ _ (callAny (.ref C) _) _ _ _
  simp only [callAny]
  refine bindP (up (wpAny_load hC ?_))
  show wpP _ _ (callAny.viaDunder (.ref C) _) _ _ _
  unfold callAny.viaDunder
  refine bindP (up (call.at ?_))
  dsimp only
  rw [tc_bind]
  refine bindP (pureP (bindP (pureP ?_)))
  refine pureP (a := Fin.again (.call (.builtin "type.__call__") ⟨.ref C :: rest, []⟩)) (And.intro rfl ?_)
  refine builtC (okB ok_tc) (q_tc _) entry_typeCall (up (check_slot tc_kind tc_split typ (tc_args _ _ _) ?_))
  unfold Builtin.«type.__call__»
  have hmro : Looks W.M h (mroOf (.ref C)) cd.mro := ((Looks.ld (part := none) hC).andThen .now).andThen .now
  refine bindP (up (hmro.at ?_))
  rw [e4]
  simp only [Bool.false_eq_true, if_false]
  refine bindP (up (made.at ?_))
  refine bindP (pureP (bindP (holdP ?_)))
  refine callP (upC (new_K Y' (looks_findIn S.X hi) (.inl rfl) ?_))
  have S₂ := (S.push emptyDict).push (instObj C h.objs.size)
  rw [Heap.size_push] at S₂
  have kk : ∀ b o, h.get? b = some o → ((h.push emptyDict).push (instObj C h.objs.size)).get? b = some o := fun b o e => Heap.get?_push_of_some _ (Heap.get?_push_of_some _ e)
  have t1 : Looks W.M ((h.push emptyDict).push (instObj C h.objs.size)) (typeOf (.ref (h.objs.size + 1))) (.ref C) := (Looks.ld (S₂.get (.head _))).andThen .now
  have s1 := self.keeps kk
  have i1 := (looks_findIn (M := W.M) S.X hi).keeps kk
  have b1 := (bind_fn (M := W.M) S.X (.ref (h.objs.size + 1)) hf).keeps kk
  show wpP _ _ (do
    if !(← isInstance (.ref (h.objs.size + 1)) (.ref C)) then rule "type.call.new-gave-other-type"; return ← ret (.ref (h.objs.size + 1))
    match ← holding [.ref (h.objs.size + 1)] (callSpecial? (.ref (h.objs.size + 1)) "__init__" rest []) with
    | none => ret (.ref (h.objs.size + 1))
    | some r =>
      if r != .none then
        rule "type.call.init-returned-value"
        raiseError "TypeError" s!"__init__() should return None, not '{← typeNameOf r}'"
      ret (.ref (h.objs.size + 1))) _ _ _
  have inst : Looks W.M ((h.push emptyDict).push (instObj C h.objs.size)) (isInstance (.ref (h.objs.size + 1)) (.ref C)) true := by unfold isInstance; exact t1.andThen s1
  refine bindP (up (inst.at ?_))
  simp only [Bool.not_true, Bool.false_eq_true, if_false]
  refine bindP (holdP ?_)
  unfold callSpecial? specialOf
  refine bindP (up ((t1.andThen i1).at ?_))
  refine holdP (bindP (up (b1.at ?_)))
  refine bindP (callP (monoC (k (h.objs.size + 1) h.objs.size _ tk S₂ fun p hp => ⟨Nat.ne_of_lt (Nat.lt_succ_of_lt (S.led_lt hp)), Nat.ne_of_lt (S.led_lt hp)⟩) fun r s' z => ?_))
  rcases r with e | (v | _ | _ | _)
  all_goals first | exact z | exact z.elim | skip
  obtain ⟨rfl, z⟩ := z
  exact pureP (pureP z)
end
end Mine

end
section
set_option maxRecDepth 100000
open PySem PySem.W PySem.Calls PyProof.Rows
open Sem (wp)
set_option Elab.async false
set_option linter.unusedVariables false
namespace Mine

structure EnvOK (env : Env) (a : Act) (xs : List Str) : Prop where
  loc : env.locals = a.L
  kind : env.scope.kind = .function
  names : ∀ x ∈ xs, env.kindOf x = some .local ∧ (x == ("__debug__" : Str)) = false
  glob : env.globals = mainGlobals
  bui : env.builtins = builtinsNs
  fra : env.frame = some a.L

def namesOK (sc : Scope) (xs : List Str) : Bool := xs.all fun x => sc.names.lookup x == some .local && !(x == ("__debug__" : Str))
theorem namesOK_of {env : Env} {xs : List Str} (h : namesOK env.scope xs = true) : ∀ x ∈ xs, env.kindOf x = some .local ∧ (x == ("__debug__" : Str)) = false := fun x hx => by
  have z := List.all_eq_true.mp h x hx
  simp only [Bool.and_eq_true, beq_iff_eq, Bool.not_eq_true'] at z
  exact ⟨z.1, z.2⟩
theorem EnvOK.mk' {a : Act} {xs : List Str} {qual : Str} {sc : Scope} {fa : Addr} {cd : Value} (hk : sc.kind = .function) (h : namesOK sc xs = true) : EnvOK (envOf qual sc a.L fa cd) a xs :=
  ⟨rfl, hk, namesOK_of h, rfl, rfl, rfl⟩

/-- an expression that leaves the heap as it is -/
structure Ev (W : Wd) (A : Around) (env : Env) (a : Act) (xs : List Str) (ρ : List (Option Value)) (led : List (Addr × Obj)) (e : Expr) (P : Value → Prop) : Prop where
  go : ∀ {E : Value → Shared → Prop} {Q : Value → Shared → Prop} {h : Heap} {G : Array GenState} {D : Drawn} {tk : Nat} {O : OsState}, St W a xs ρ led h →
    (∀ v h' tk', P v → St W a xs ρ led h' → Q v ⟨h', G, D, tk', O⟩) → wpP W.M A (eval e env) Q E ⟨h, G, D, tk, O⟩
structure EvB (W : Wd) (A : Around) (env : Env) (a : Act) (xs : List Str) (ρ : List (Option Value)) (led : List (Addr × Obj)) (e : Expr) (b : Bool) : Prop where
  go : ∀ {E : Value → Shared → Prop} {Q : Bool → Shared → Prop} {h : Heap} {G : Array GenState} {D : Drawn} {tk : Nat} {O : OsState}, St W a xs ρ led h →
    (∀ h' tk', St W a xs ρ led h' → Q b ⟨h', G, D, tk', O⟩) → wpP W.M A (isTrue e env (eval e env)) Q E ⟨h, G, D, tk, O⟩
structure EvBs (W : Wd) (A : Around) (env : Env) (a : Act) (xs : List Str) (ρ : List (Option Value)) (led : List (Addr × Obj)) (op : BoolOp) (es : List Expr) (b : Bool) : Prop where
  go : ∀ {E : Value → Shared → Prop} {Q : Bool → Shared → Prop} {h : Heap} {G : Array GenState} {D : Drawn} {tk : Nat} {O : OsState}, St W a xs ρ led h →
    (∀ h' tk', St W a xs ρ led h' → Q b ⟨h', G, D, tk', O⟩) → wpP W.M A (allTrue op es env) Q E ⟨h, G, D, tk, O⟩
structure EvL (W : Wd) (A : Around) (env : Env) (a : Act) (xs : List Str) (ρ : List (Option Value)) (led : List (Addr × Obj)) (es : List Expr) (P : List Value → Prop) : Prop where
  go : ∀ {E : Value → Shared → Prop} {Q : List Value → Shared → Prop} {h : Heap} {G : Array GenState} {D : Drawn} {tk : Nat} {O : OsState} {pos : Pos}, St W a xs ρ led h →
    (∀ vs h' tk', P vs → St W a xs ρ led h' → Q vs ⟨h', G, D, tk', O⟩) → wpP W.M A (spliced (backTo pos (starEach es env))) Q E ⟨h, G, D, tk, O⟩
def IsI (i : Int) (v : Value) : Prop := ∃ t, v = .int i t

section
variable {W : Wd} {A : Around} {env : Env} {a : Act} {xs : List Str} {ρ : List (Option Value)} {led : List (Addr × Obj)}

theorem Ev.mono {e P P'} (h : Ev W A env a xs ρ led e P) (k : ∀ v, P v → P' v) : Ev W A env a xs ρ led e P' := ⟨fun S q => h.go S fun v h' tk' p S' => q v h' tk' (k v p) S'⟩
theorem EvL.nil : EvL W A env a xs ρ led [] (fun vs => vs = []) := ⟨fun S q => spliced_nilP (q _ _ _ rfl S)⟩
theorem EvL.cons {e es P R} (h : Ev W A env a xs ρ led e P) (k : EvL W A env a xs ρ led es R) (he : starEach (e :: es) env = (false, eval e env) :: starEach es env := by rfl) :
    EvL W A env a xs ρ led (e :: es) (fun vs => ∃ v r, vs = v :: r ∧ P v ∧ R r) := ⟨fun S q => spliced_consP (h.go S fun v h' tk' p S' => k.go S' fun r h'' tk'' pr S'' => q _ _ _ ⟨v, r, rfl, p, pr⟩ S'') he⟩

theorem Ev.loc {x : Str} {pos : Pos} {v : Value} {i : Nat} (N : EnvOK env a xs) (hx : At xs i x) (hv : ρ[i]? = some (some v)) : Ev W A env a xs ρ led (.Name x pos) (· = v) :=
  ⟨fun S q => NameL S hx hv N.loc N.kind N.names (q _ _ _ rfl S)⟩
theorem Ev.locI {x : Str} {pos : Pos} {k : Int} {t : Tok} {i : Nat} (N : EnvOK env a xs) (hx : At xs i x) (hv : ρ[i]? = some (some (.int k t))) : Ev W A env a xs ρ led (.Name x pos) (IsI k) :=
  ⟨fun S q => NameL S hx hv N.loc N.kind N.names (q _ _ _ ⟨t, rfl⟩ S)⟩
theorem Ev.glob {x : Str} {pos : Pos} {v : Value} (N : EnvOK env a xs) (g : GV W x v) (hx : (env.kindOf x == some .globalImplicit && !(x == ("__debug__" : Str))) = true := by kernel_rfl) : Ev W A env a xs ρ led (.Name x pos) (· = v) :=
  ⟨fun S q => NameG S g N.glob N.bui N.kind (by simpa using hx) (q _ _ _ rfl S)⟩
theorem Ev.globI {x : Str} {pos : Pos} {i : Int} {t : Tok} (N : EnvOK env a xs) (g : GV W x (.int i t)) (hx : (env.kindOf x == some .globalImplicit && !(x == ("__debug__" : Str))) = true := by kernel_rfl) : Ev W A env a xs ρ led (.Name x pos) (IsI i) :=
  ⟨fun S q => NameG S g N.glob N.bui N.kind (by simpa using hx) (q _ _ _ ⟨t, rfl⟩ S)⟩
theorem Ev.int {i : Int} {k : Nat} {pos : Pos} : Ev W A env a xs ρ led (.Constant (.int i) k pos) (IsI i) := ⟨fun S q => constI fun t tk' => q _ _ _ ⟨t, rfl⟩ S⟩
theorem Ev.bool {b : Bool} {k : Nat} {pos : Pos} : Ev W A env a xs ρ led (.Constant (.bool b) k pos) (· = .bool b) := ⟨fun S q => constB (q _ _ _ rfl S)⟩
theorem Ev.none {k : Nat} {pos : Pos} : Ev W A env a xs ρ led (.Constant .none k pos) (· = .none) := ⟨fun S q => constN (q _ _ _ rfl S)⟩
theorem Ev.bin {op l r pos P R T} (hl : Ev W A env a xs ρ led l P) (hr : Ev W A env a xs ρ led r R)
    (k : ∀ (u v : Value) (Q E : Value → Shared → Prop) (s : Shared), P u → R v → (∀ w tk', T w → Q w { s with toks := tk' }) → wpAny W.M A (binaryOp op u v) Q E s) : Ev W A env a xs ρ led (.BinOp l op r pos) T :=
  ⟨fun S q => BinOpP (hl.go S fun u h' tk' p S' => hr.go S' fun v h'' tk'' p' S'' => up (k u v _ _ _ p p' fun w tk' pw => q w _ tk' pw S''))⟩
theorem Ev.add {l r pos i j} (hl : Ev W A env a xs ρ led l (IsI i)) (hr : Ev W A env a xs ρ led r (IsI j)) : Ev W A env a xs ρ led (.BinOp l .Add r pos) (IsI (i + j)) :=
  Ev.bin hl hr fun _ _ _ _ _ ⟨_, hu⟩ ⟨_, hv⟩ q => by subst hu; subst hv; exact add_int (q _ _ ⟨_, rfl⟩)
theorem Ev.sub {l r pos i j} (hl : Ev W A env a xs ρ led l (IsI i)) (hr : Ev W A env a xs ρ led r (IsI j)) : Ev W A env a xs ρ led (.BinOp l .Sub r pos) (IsI (i - j)) :=
  Ev.bin hl hr fun _ _ _ _ _ ⟨_, hu⟩ ⟨_, hv⟩ q => by subst hu; subst hv; exact sub_int (q _ _ ⟨_, rfl⟩)
theorem Ev.mul {l r pos i j} (hl : Ev W A env a xs ρ led l (IsI i)) (hr : Ev W A env a xs ρ led r (IsI j)) (ok : IntMulOk i j) : Ev W A env a xs ρ led (.BinOp l .Mult r pos) (IsI (i * j)) :=
  Ev.bin hl hr fun _ _ _ _ _ ⟨_, hu⟩ ⟨_, hv⟩ q => by subst hu; subst hv; exact mul_int (q _ _ ⟨_, rfl⟩) ok
theorem Ev.mod {l r pos i j} (hl : Ev W A env a xs ρ led l (IsI i)) (hr : Ev W A env a xs ρ led r (IsI j)) (ok : j ≠ 0) : Ev W A env a xs ρ led (.BinOp l .Mod r pos) (IsI (i.fmod j)) :=
  Ev.bin hl hr fun _ _ _ _ _ ⟨_, hu⟩ ⟨_, hv⟩ q => by subst hu; subst hv; exact mod_int' ok (q _ _ ⟨_, rfl⟩)
theorem Ev.div {l r pos i j} (hl : Ev W A env a xs ρ led l (IsI i)) (hr : Ev W A env a xs ρ led r (IsI j)) (ok : j ≠ 0) (sm : j.natAbs.log2 < 9000) : Ev W A env a xs ρ led (.BinOp l .FloorDiv r pos) (IsI (i.fdiv j)) :=
  Ev.bin hl hr fun _ _ _ _ _ ⟨_, hu⟩ ⟨_, hv⟩ q => by subst hu; subst hv; exact floordiv_int ok (q _ _ ⟨_, rfl⟩) (Or.inl (PyProof.noPylong_of_log2 sm))
theorem Ev.and {l r pos i j} (hl : Ev W A env a xs ρ led l (IsI i)) (hr : Ev W A env a xs ρ led r (IsI j)) : Ev W A env a xs ρ led (.BinOp l .BitAnd r pos) (IsI (Builtin.bitAnd i j)) :=
  Ev.bin hl hr fun _ _ _ _ _ ⟨_, hu⟩ ⟨_, hv⟩ q => by subst hu; subst hv; exact and_int (q _ _ ⟨_, rfl⟩)
theorem Ev.or {l r pos i j} (hl : Ev W A env a xs ρ led l (IsI i)) (hr : Ev W A env a xs ρ led r (IsI j)) : Ev W A env a xs ρ led (.BinOp l .BitOr r pos) (IsI (Builtin.bitOr i j)) :=
  Ev.bin hl hr fun _ _ _ _ _ ⟨_, hu⟩ ⟨_, hv⟩ q => by subst hu; subst hv; exact or_int (q _ _ ⟨_, rfl⟩)
theorem Ev.shl {l r pos i j} (hl : Ev W A env a xs ρ led l (IsI i)) (hr : Ev W A env a xs ρ led r (IsI j)) (h0 : 0 ≤ j) (h1 : j ≤ 1000000) (h2 : i.natAbs < 2 ^ 64) : Ev W A env a xs ρ led (.BinOp l .LShift r pos) (IsI (i * 2 ^ j.toNat)) :=
  Ev.bin hl hr fun _ _ _ _ _ ⟨_, hu⟩ ⟨_, hv⟩ q => by subst hu; subst hv; exact lshift_int_small h0 h1 h2 (q _ _ ⟨_, rfl⟩)
theorem Ev.shr {l r pos i j} (hl : Ev W A env a xs ρ led l (IsI i)) (hr : Ev W A env a xs ρ led r (IsI j)) (h0 : 0 ≤ j) : Ev W A env a xs ρ led (.BinOp l .RShift r pos) (IsI (i.fdiv (2 ^ j.toNat))) :=
  Ev.bin hl hr fun _ _ _ _ _ ⟨_, hu⟩ ⟨_, hv⟩ q => by subst hu; subst hv; exact rshift_int h0 (q _ _ ⟨_, rfl⟩)
theorem Ev.pow {l r pos i j} (hl : Ev W A env a xs ρ led l (IsI i)) (hr : Ev W A env a xs ρ led r (IsI j)) (h0 : 0 ≤ j) (h1 : j ≤ 1000000) (h2 : i.natAbs < 2 ^ 64) : Ev W A env a xs ρ led (.BinOp l .Pow r pos) (IsI (i ^ j.toNat)) :=
  Ev.bin hl hr fun _ _ _ _ _ ⟨_, hu⟩ ⟨_, hv⟩ q => by subst hu; subst hv; exact pow_int_small h0 h1 h2 (q _ _ ⟨_, rfl⟩)
theorem Ev.neg {x pos i} (hl : Ev W A env a xs ρ led x (IsI i)) : Ev W A env a xs ρ led (.UnaryOp .USub x pos) (IsI (-i)) :=
  ⟨fun S q => UnaryP (hl.go S fun u h' tk' ⟨_, hu⟩ S' => by subst hu; exact up (PySem.P.neg_int (q _ _ _ ⟨_, rfl⟩ S')))⟩

/-! tests -/
theorem bim {op : CmpOp} (h : (op == .In || op == .NotIn) = false) (r : Expr) : behindInMarks op r = false := by
  cases r <;> first | rfl | (unfold behindInMarks; rw [h]; simp)
theorem cmpTest {op l r pos P R b} (hl : Ev W A env a xs ρ led l P) (hr : Ev W A env a xs ρ led r R)
    (k : ∀ (u v : Value) (Q E : Value → Shared → Prop) (s : Shared), P u → R v → (∀ tk', Q (.bool b) { s with toks := tk' }) → wpAny W.M A (compareOp op u v) Q E s) (hm : behindInMarks op r = false) : EvB W A env a xs ρ led (.Compare l [op] [r] pos) b :=
  ⟨fun S q => TestCompareP (hl.go S fun u h' tk' p S' => hr.go S' fun v h'' tk'' p' S'' => up (k u v _ _ _ p p' fun tk1 => truthyB (q _ _ S''))) hm⟩
theorem cmpVal {op l r pos P R b} (hl : Ev W A env a xs ρ led l P) (hr : Ev W A env a xs ρ led r R)
    (k : ∀ (u v : Value) (Q E : Value → Shared → Prop) (s : Shared), P u → R v → (∀ tk', Q (.bool b) { s with toks := tk' }) → wpAny W.M A (compareOp op u v) Q E s) (hm : behindInMarks op r = false) : Ev W A env a xs ρ led (.Compare l [op] [r] pos) (· = .bool b) :=
  ⟨fun S q => CompareP (hl.go S fun u h' tk' p S' => hr.go S' fun v h'' tk'' p' S'' => up (k u v _ _ _ p p' fun tk' => q _ _ _ rfl S'')) hm⟩
theorem EvB.lt {l r pos i j} (hl : Ev W A env a xs ρ led l (IsI i)) (hr : Ev W A env a xs ρ led r (IsI j)) : EvB W A env a xs ρ led (.Compare l [.Lt] [r] pos) (decide (i < j)) :=
  cmpTest hl hr (fun _ _ _ _ _ ⟨_, hu⟩ ⟨_, hv⟩ q => by subst hu; subst hv; exact P.lt_int (q _)) (bim rfl r)
theorem EvB.le {l r pos i j} (hl : Ev W A env a xs ρ led l (IsI i)) (hr : Ev W A env a xs ρ led r (IsI j)) : EvB W A env a xs ρ led (.Compare l [.LtE] [r] pos) (decide (i ≤ j)) :=
  cmpTest hl hr (fun _ _ _ _ _ ⟨_, hu⟩ ⟨_, hv⟩ q => by subst hu; subst hv; exact P.le_int (q _)) (bim rfl r)
theorem EvB.gt {l r pos i j} (hl : Ev W A env a xs ρ led l (IsI i)) (hr : Ev W A env a xs ρ led r (IsI j)) : EvB W A env a xs ρ led (.Compare l [.Gt] [r] pos) (decide (i > j)) :=
  cmpTest hl hr (fun _ _ _ _ _ ⟨_, hu⟩ ⟨_, hv⟩ q => by subst hu; subst hv; exact P.gt_int (q _)) (bim rfl r)
theorem EvB.ge {l r pos i j} (hl : Ev W A env a xs ρ led l (IsI i)) (hr : Ev W A env a xs ρ led r (IsI j)) : EvB W A env a xs ρ led (.Compare l [.GtE] [r] pos) (decide (i ≥ j)) :=
  cmpTest hl hr (fun _ _ _ _ _ ⟨_, hu⟩ ⟨_, hv⟩ q => by subst hu; subst hv; exact P.ge_int (q _)) (bim rfl r)
theorem EvB.eq {l r pos i j} (hl : Ev W A env a xs ρ led l (IsI i)) (hr : Ev W A env a xs ρ led r (IsI j)) : EvB W A env a xs ρ led (.Compare l [.Eq] [r] pos) (i == j) :=
  cmpTest hl hr (fun _ _ _ _ _ ⟨_, hu⟩ ⟨_, hv⟩ q => by subst hu; subst hv; exact P.eq_int (q _)) (bim rfl r)
theorem EvB.ne {l r pos i j} (hl : Ev W A env a xs ρ led l (IsI i)) (hr : Ev W A env a xs ρ led r (IsI j)) : EvB W A env a xs ρ led (.Compare l [.NotEq] [r] pos) (i != j) :=
  cmpTest hl hr (fun _ _ _ _ _ ⟨_, hu⟩ ⟨_, hv⟩ q => by subst hu; subst hv; exact P.ne_int (q _)) (bim rfl r)
theorem Ev.eq {l r pos i j} (hl : Ev W A env a xs ρ led l (IsI i)) (hr : Ev W A env a xs ρ led r (IsI j)) : Ev W A env a xs ρ led (.Compare l [.Eq] [r] pos) (· = .bool (i == j)) :=
  cmpVal hl hr (fun _ _ _ _ _ ⟨_, hu⟩ ⟨_, hv⟩ q => by subst hu; subst hv; exact P.eq_int (q _)) (bim rfl r)
theorem Ev.ne {l r pos i j} (hl : Ev W A env a xs ρ led l (IsI i)) (hr : Ev W A env a xs ρ led r (IsI j)) : Ev W A env a xs ρ led (.Compare l [.NotEq] [r] pos) (· = .bool (i != j)) :=
  cmpVal hl hr (fun _ _ _ _ _ ⟨_, hu⟩ ⟨_, hv⟩ q => by subst hu; subst hv; exact P.ne_int (q _)) (bim rfl r)
theorem Ev.gt {l r pos i j} (hl : Ev W A env a xs ρ led l (IsI i)) (hr : Ev W A env a xs ρ led r (IsI j)) : Ev W A env a xs ρ led (.Compare l [.Gt] [r] pos) (· = .bool (decide (i > j))) :=
  cmpVal hl hr (fun _ _ _ _ _ ⟨_, hu⟩ ⟨_, hv⟩ q => by subst hu; subst hv; exact P.gt_int (q _)) (bim rfl r)
theorem EvBs.nilAnd : EvBs W A env a xs ρ led .And [] true := ⟨fun S q => allTrue_nilP (q _ _ S)⟩
theorem EvBs.nilOr : EvBs W A env a xs ρ led .Or [] false := ⟨fun S q => allTrue_nilP (q _ _ S)⟩
theorem EvBs.and {e es b c} (h : EvB W A env a xs ρ led e b) (k : b = true → EvBs W A env a xs ρ led .And es c) : EvBs W A env a xs ρ led .And (e :: es) (b && c) :=
  ⟨fun S q => allTrue_andP (h.go S fun h' tk' S' => by
    cases b with
    | true => exact (k rfl).go S' q
    | false => exact q _ _ S')⟩
theorem EvBs.or {e es b c} (h : EvB W A env a xs ρ led e b) (k : b = false → EvBs W A env a xs ρ led .Or es c) : EvBs W A env a xs ρ led .Or (e :: es) (b || c) :=
  ⟨fun S q => allTrue_orP (h.go S fun h' tk' S' => by
    cases b with
    | true => exact q _ _ S'
    | false => exact (k rfl).go S' q)⟩
theorem EvB.bop {op es pos b} (h : EvBs W A env a xs ρ led op es b) : EvB W A env a xs ρ led (.BoolOp op es pos) b := ⟨fun S q => TestBoolP (h.go S q)⟩
theorem EvB.not {x pos b} (h : EvB W A env a xs ρ led x b) : EvB W A env a xs ρ led (.UnaryOp .Not x pos) (!b) := ⟨fun S q => TestNotP (h.go S q)⟩
theorem EvB.cast {e b c} (h : EvB W A env a xs ρ led e b) (k : b = c) : EvB W A env a xs ρ led e c := k ▸ h
theorem Ev.castI {e i j} (h : Ev W A env a xs ρ led e (IsI i)) (k : i = j) : Ev W A env a xs ρ led e (IsI j) := k ▸ h
theorem EvB.boolLoc {x : Str} {pos : Pos} {b : Bool} {i : Nat} (N : EnvOK env a xs) (hx : At xs i x) (hv : ρ[i]? = some (some (.bool b))) : EvB W A env a xs ρ led (.Name x pos) b :=
  ⟨fun S q => TestP (NameL S hx hv N.loc N.kind N.names (truthyB (q _ _ S)))⟩
theorem Ev.ifexp {t b o p c P} (h : EvB W A env a xs ρ led t c) (hb : c = true → Ev W A env a xs ρ led b P) (ho : c = false → Ev W A env a xs ρ led o P) : Ev W A env a xs ρ led (.IfExp t b o p) P :=
  ⟨fun S q => IfExpP (h.go S fun h' tk' S' => by
    cases c with
    | true => exact (hb rfl).go S' q
    | false => exact (ho rfl).go S' q)⟩

/-! statements -/
variable {E : Value → Shared → Prop} {Q : Flow → Shared → Prop} {h : Heap} {G : Array GenState} {D : Drawn} {tk : Nat} {O : OsState}
theorem IfE {test body orelse pos b} (S : St W a xs ρ led h) (ht : EvB W A env a xs ρ led test b) (k1 : b = true → ∀ h tk, St W a xs ρ led h → wpP W.M A (execs body env) Q E ⟨h, G, D, tk, O⟩) (k2 : b = false → ∀ h tk, St W a xs ρ led h → wpP W.M A (execs orelse env) Q E ⟨h, G, D, tk, O⟩) :
    wpP W.M A (exec (.If test body orelse pos) env) Q E ⟨h, G, D, tk, O⟩ := IfP (ht.go S fun h' tk' S' => by
  cases b with
  | true => exact k1 rfl _ _ S'
  | false => exact k2 rfl _ _ S')
theorem ReturnE {e pos P} (S : St W a xs ρ led h) (he : Ev W A env a xs ρ led e P) (k : ∀ v h tk, P v → St W a xs ρ led h → Q (.ret v) ⟨h, G, D, tk, O⟩) : wpP W.M A (exec (.Return (some e) pos) env) Q E ⟨h, G, D, tk, O⟩ :=
  ReturnP (he.go S k)
theorem SetE {x : Str} {pos' value pos P} {i : Nat} (N : EnvOK env a xs) (S : St W a xs ρ led h) (he : Ev W A env a xs ρ led value P) (hx : At xs i x) (k : ∀ v h' tk', P v → St W a xs (ρ.set i (some v)) led h' → Q .next ⟨h', G, D, tk', O⟩)
    (hs : swapsWith value (some (.Name x pos')) pos.line env = pure false := by rfl) : wpP W.M A (exec (.Assign [.Name x pos'] value pos) env) Q E ⟨h, G, D, tk, O⟩ :=
  AssignNameP (he.go S fun v h' tk' p S' => storeL S' hx N.loc N.kind N.names fun h' tk' S' => k v h' tk' p S') hs
theorem AugE {x : Str} {pos' op value pos P u} {T : Value → Prop} {i : Nat} (N : EnvOK env a xs) (S : St W a xs ρ led h) (hx : At xs i x) (hv : ρ[i]? = some (some u)) (he : Ev W A env a xs ρ led value P)
    (hop : ∀ (v : Value) (Q E : Value → Shared → Prop) (s : Shared), P v → (∀ w tk', T w → Q w { s with toks := tk' }) → wpAny W.M A (inplaceOp op u v) Q E s)
    (k : ∀ v h' tk', T v → St W a xs (ρ.set i (some v)) led h' → Q .next ⟨h', G, D, tk', O⟩) : wpP W.M A (exec (.AugAssign (.Name x pos') op value pos) env) Q E ⟨h, G, D, tk, O⟩ :=
  AugNameP (loadNameL S hx hv N.loc N.kind N.names (he.go S fun v h' tk' p S' => up (hop v _ _ _ p fun w tk' pw => storeL S' hx N.loc N.kind N.names fun h' tk' S' => k w h' tk' pw S')))
theorem AugAdd {x : Str} {pos' value pos t} {i : Nat} {m n : Int} (N : EnvOK env a xs) (S : St W a xs ρ led h) (hx : At xs i x) (hv : ρ[i]? = some (some (.int m t))) (he : Ev W A env a xs ρ led value (IsI n))
    (k : ∀ t h' tk', St W a xs (ρ.set i (some (.int (m + n) t))) led h' → Q .next ⟨h', G, D, tk', O⟩) : wpP W.M A (exec (.AugAssign (.Name x pos') .Add value pos) env) Q E ⟨h, G, D, tk, O⟩ :=
  AugE N S hx hv he (T := IsI (m + n)) (fun v Q E s ⟨_, hv⟩ q => by subst hv; exact P.iadd_int (q _ _ ⟨_, rfl⟩)) fun v h' tk' ⟨t, hv⟩ S' => k t h' tk' (hv ▸ S')
theorem AugOr {x : Str} {pos' value pos t} {i : Nat} {m n : Int} (N : EnvOK env a xs) (S : St W a xs ρ led h) (hx : At xs i x) (hv : ρ[i]? = some (some (.int m t))) (he : Ev W A env a xs ρ led value (IsI n))
    (k : ∀ t h' tk', St W a xs (ρ.set i (some (.int (Builtin.bitOr m n) t))) led h' → Q .next ⟨h', G, D, tk', O⟩) : wpP W.M A (exec (.AugAssign (.Name x pos') .BitOr value pos) env) Q E ⟨h, G, D, tk, O⟩ :=
  AugE N S hx hv he (T := IsI (Builtin.bitOr m n)) (fun v Q E s ⟨_, hv⟩ q => by subst hv; exact ior_int (q _ _ ⟨_, rfl⟩)) fun v h' tk' ⟨t, hv⟩ S' => k t h' tk' (hv ▸ S')
theorem AugShr {x : Str} {pos' value pos t} {i : Nat} {m n : Int} (N : EnvOK env a xs) (S : St W a xs ρ led h) (hx : At xs i x) (hv : ρ[i]? = some (some (.int m t))) (he : Ev W A env a xs ρ led value (IsI n)) (h0 : 0 ≤ n)
    (k : ∀ t h' tk', St W a xs (ρ.set i (some (.int (m.fdiv (2 ^ n.toNat)) t))) led h' → Q .next ⟨h', G, D, tk', O⟩) : wpP W.M A (exec (.AugAssign (.Name x pos') .RShift value pos) env) Q E ⟨h, G, D, tk, O⟩ :=
  AugE N S hx hv he (T := IsI (m.fdiv (2 ^ n.toNat))) (fun v Q E s ⟨_, hv⟩ q => by subst hv; exact irshift_int h0 (q _ _ ⟨_, rfl⟩)) fun v h' tk' ⟨t, hv⟩ S' => k t h' tk' (hv ▸ S')
end
end Mine

end
section
set_option maxRecDepth 100000
open PySem PySem.W PySem.Calls PyProof.Rows
open Sem (wp)
set_option Elab.async false
set_option linter.unusedVariables false
namespace Mine
namespace BA

/-! ## The bytearray type: its facts -/
theorem plainAttrs : PlainAttrs "bytearray" :=
  ⟨⟨"bytearray.__getattribute__", by rw [typeLookup_type, builtinLookup_eq_fast]; kernel_rfl, by decide +kernel⟩, by rw [typeLookup_type, builtinLookup_eq_fast]; kernel_rfl⟩
theorem owner : Manifest.owners.lookup (String.ofList ['y', 'a', 'r', 'r', 'a', 'e', 't', 'y', 'b'].reverse) = some Manifest.sig_bytearray := by kernel_rfl
theorem slot_append : Slot "bytearray" "append" "bytearray.append" :=
  .of (owner := "bytearray") (n := "append") (by rw [typeLookup_type, builtinLookup_eq_fast]; kernel_rfl) (by decide +kernel) (by decide +kernel) (by decide +kernel)
    (by first | exact .inl (by decide +kernel) | exact .inr (by decide +kernel)) (by rw [isSubtype_type]; kernel_rfl)
theorem entry_append : entryFor table "bytearray.append" = some Builtin.«bytearray.append» := entryFor_of_tree (by kernel_rfl)
theorem args_append_2 (a b : Value) : argsOk "bytearray.append" ⟨[a, b], []⟩ := by
  unfold argsOk; rw [signature?_of (id := "bytearray.append") (n := ['d', 'n', 'e', 'p', 'p', 'a']) (o := ['y', 'a', 'r', 'r', 'a', 'e', 't', 'y', 'b']) (by kernel_rfl) owner]; kernel_rfl
theorem slot_extend : Slot "bytearray" "extend" "bytearray.extend" :=
  .of (owner := "bytearray") (n := "extend") (by rw [typeLookup_type, builtinLookup_eq_fast]; kernel_rfl) (by decide +kernel) (by decide +kernel) (by decide +kernel)
    (by first | exact .inl (by decide +kernel) | exact .inr (by decide +kernel)) (by rw [isSubtype_type]; kernel_rfl)
theorem entry_extend : entryFor table "bytearray.extend" = some Builtin.«bytearray.extend» := entryFor_of_tree (by kernel_rfl)
theorem args_extend_2 (a b : Value) : argsOk "bytearray.extend" ⟨[a, b], []⟩ := by
  unfold argsOk; rw [signature?_of (id := "bytearray.extend") (n := ['d', 'n', 'e', 't', 'x', 'e']) (o := ['y', 'a', 'r', 'r', 'a', 'e', 't', 'y', 'b']) (by kernel_rfl) owner]; kernel_rfl
theorem slot_len : Slot "bytearray" "__len__" "bytearray.__len__" :=
  .of (owner := "bytearray") (n := "__len__") (by rw [typeLookup_type, builtinLookup_eq_fast]; kernel_rfl) (by decide +kernel) (by decide +kernel) (by decide +kernel)
    (by first | exact .inl (by decide +kernel) | exact .inr (by decide +kernel)) (by rw [isSubtype_type]; kernel_rfl)
theorem entry_len : entryFor table "bytearray.__len__" = some Builtin.«bytearray.__len__» := entryFor_of_tree (by kernel_rfl)
theorem args_len_1 (a : Value) : argsOk "bytearray.__len__" ⟨[a], []⟩ := by
  unfold argsOk; rw [signature?_of (id := "bytearray.__len__") (n := ['_', '_', 'n', 'e', 'l', '_', '_']) (o := ['y', 'a', 'r', 'r', 'a', 'e', 't', 'y', 'b']) (by kernel_rfl) owner]; kernel_rfl
theorem slot_getitem : Slot "bytearray" "__getitem__" "bytearray.__getitem__" :=
  .of (owner := "bytearray") (n := "__getitem__") (by rw [typeLookup_type, builtinLookup_eq_fast]; kernel_rfl) (by decide +kernel) (by decide +kernel) (by decide +kernel)
    (by first | exact .inl (by decide +kernel) | exact .inr (by decide +kernel)) (by rw [isSubtype_type]; kernel_rfl)
theorem entry_getitem : entryFor table "bytearray.__getitem__" = some Builtin.«bytearray.__getitem__» := entryFor_of_tree (by kernel_rfl)
theorem args_getitem_2 (a b : Value) : argsOk "bytearray.__getitem__" ⟨[a, b], []⟩ := by
  unfold argsOk; rw [signature?_of (id := "bytearray.__getitem__") (n := ['_', '_', 'm', 'e', 't', 'i', 't', 'e', 'g', '_', '_']) (o := ['y', 'a', 'r', 'r', 'a', 'e', 't', 'y', 'b']) (by kernel_rfl) owner]; kernel_rfl
theorem slot_init : Slot "bytearray" "__init__" "bytearray.__init__" :=
  .of (owner := "bytearray") (n := "__init__") (by rw [typeLookup_type, builtinLookup_eq_fast]; kernel_rfl) (by decide +kernel) (by decide +kernel) (by decide +kernel)
    (by first | exact .inl (by decide +kernel) | exact .inr (by decide +kernel)) (by rw [isSubtype_type]; kernel_rfl)
theorem entry_init : entryFor table "bytearray.__init__" = some Builtin.«bytearray.__init__» := entryFor_of_tree (by kernel_rfl)
theorem args_init_1 (a : Value) : argsOk "bytearray.__init__" ⟨[a], []⟩ := by
  unfold argsOk; rw [signature?_of (id := "bytearray.__init__") (n := ['_', '_', 't', 'i', 'n', 'i', '_', '_']) (o := ['y', 'a', 'r', 'r', 'a', 'e', 't', 'y', 'b']) (by kernel_rfl) owner]; kernel_rfl
theorem args_init_2 (a b : Value) : argsOk "bytearray.__init__" ⟨[a, b], []⟩ := by
  unfold argsOk; rw [signature?_of (id := "bytearray.__init__") (n := ['_', '_', 't', 'i', 'n', 'i', '_', '_']) (o := ['y', 'a', 'r', 'r', 'a', 'e', 't', 'y', 'b']) (by kernel_rfl) owner]; kernel_rfl
theorem look_buffer : typeLookup (.type "bytearray") "__buffer__" = pure (some (.builtin "bytearray.__buffer__")) := by rw [typeLookup_type, builtinLookup_eq_fast]; kernel_rfl
theorem look_release : typeLookup (.type "bytearray") "__release_buffer__" = pure (some (.builtin "bytearray.__release_buffer__")) := by rw [typeLookup_type, builtinLookup_eq_fast]; kernel_rfl
theorem look_bytes : typeLookup (.type "bytearray") "__bytes__" = pure (none) := by rw [typeLookup_type, builtinLookup_eq_fast]; kernel_rfl
theorem look_index : typeLookup (.type "bytearray") "__index__" = pure (none) := by rw [typeLookup_type, builtinLookup_eq_fast]; kernel_rfl
theorem sub_self : isSubtype (.type "bytearray") (.type "bytearray") = pure true := by rw [isSubtype_type]; kernel_rfl
theorem mro : mroOf (.type "bytearray") = pure [.type "bytearray", .type "object"] := by rw [mroOf_type]; kernel_rfl
theorem look_new : typeLookup (.type "bytearray") "__new__" = pure (some (.builtin "bytearray.__new__")) := by rw [typeLookup_type, builtinLookup_eq_fast]; kernel_rfl
theorem called : TypeCalled "bytearray" "bytearray.__new__" "bytearray.__init__" :=
  ⟨by decide +kernel, by decide +kernel, ⟨_, _, mro⟩, madeBy_type mro look_new (by decide +kernel), by decide +kernel, by rw [isSubtype_type]; kernel_rfl, slot_init⟩
theorem typeCall_0 : checkTypeCall "bytearray" ⟨[], []⟩ = pure () := by kernel_rfl
theorem typeCall_1 (a : Value) : checkTypeCall "bytearray" ⟨[a], []⟩ = pure () := by kernel_rfl
theorem newCall_0 : checkBuiltinCall "bytearray.__new__" ⟨[.type "bytearray"], []⟩ = pure () := by kernel_rfl
theorem newCall_1 (a : Value) : checkBuiltinCall "bytearray.__new__" ⟨[.type "bytearray", a], []⟩ = pure () := by kernel_rfl
theorem entry_new : entryFor table "bytearray.__new__" = some Builtin.«list.__new__» :=
  entryFor_alias (id' := "list.__new__") (by kernel_rfl) (by first | rfl | decide +kernel) (by decide +kernel) (by kernel_rfl)
theorem plain_new : plainId "bytearray.__new__" = true := by decide +kernel
theorem bind_0 : Builtin.Bytes.bindOptional "bytearray.__init__" "bytearray" ["source", "encoding", "errors"] [] [] = pure [none, none, none] := by kernel_rfl
theorem bind_1 (v : Value) : Builtin.Bytes.bindOptional "bytearray.__init__" "bytearray" ["source", "encoding", "errors"] [v] [] = pure [some v, none, none] := by kernel_rfl
theorem no_index_bytes : typeLookup (.type "bytes") "__index__" = pure none := by rw [typeLookup_type, builtinLookup_eq_fast]; kernel_rfl
theorem look_bytes_bytes : typeLookup (.type "bytes") "__bytes__" = pure (some (.builtin "bytes.__bytes__")) := by rw [typeLookup_type, builtinLookup_eq_fast]; kernel_rfl
theorem ok_append : badIds.contains "bytearray.append" = false := by decide +kernel
theorem ok_extend : badIds.contains "bytearray.extend" = false := by decide +kernel
theorem ok_init : badIds.contains "bytearray.__init__" = false := by decide +kernel
theorem ok_new : badIds.contains "bytearray.__new__" = false := by decide +kernel
end BA
end Mine

end
section
set_option maxRecDepth 100000
open PySem PySem.W PySem.Calls PyProof.Rows
open Sem (wp)
set_option Elab.async false
set_option linter.unusedVariables false
namespace Mine
open Builtin Builtin.Bytes

/-- octets as an array -/
def ba (l : List Nat) : Array UInt8 := (l.map Nat.toUInt8).toArray
theorem ba_size (l : List Nat) : (ba l).size = l.length := by simp [ba]
theorem ba_push (l : List Nat) (n : Nat) : (ba l).push n.toUInt8 = ba (l ++ [n]) := by simp [ba]
theorem ba_append (l m : List Nat) : ba l ++ ba m = ba (l ++ m) := by simp [ba]
theorem ba_empty (l : List Nat) : (ba l).isEmpty = l.isEmpty := by cases l <;> simp [ba]

section
variable {W : Wd} {A : Around} {E : Value → Shared → Prop} {a : Act} {xs : List Str} {ρ : List (Option Value)} {led : List (Addr × Obj)} {h : Heap} {G : Array GenState} {D : Drawn} {tk : Nat} {O : OsState} {env : Env}

theorem payloadP {x : Addr} {l : List Nat} {Q : Array UInt8 → Shared → Prop} (S : St W a xs ρ led h) (m : (x, baO (ba l)) ∈ led) (q : Q (ba l) ⟨h, G, D, tk, O⟩) : wpAny W.M A (payload (.ref x)) Q E ⟨h, G, D, tk, O⟩ := by
  unfold payload payload?
  refine wpAny_bind (wpAny_bind (wpAny_load (S.get m) ?_))
  exact wpAny_pure (wpAny_pure q)
theorem checkResizeP {x : Addr} {l : List Nat} {Q : Unit → Shared → Prop} (S : St W a xs ρ led h) (m : (x, baO (ba l)) ∈ led) (q : Q () ⟨h, G, D, tk, O⟩) : wpP W.M A (checkResize (.ref x)) Q E ⟨h, G, D, tk, O⟩ := by
  unfold checkResize
  refine bindP (bindP (exportedP (bindP ?_)))
  unfold exportsOf
  refine bindP (up (wpAny_load (S.get m) ?_))
  exact pureP (pureP (pureP q))
theorem writeP {x : Addr} {l l' : List Nat} {f : Array UInt8 → Array UInt8} {Q : Unit → Shared → Prop} (S : St W a xs ρ led h) (m : (x, baO (ba l)) ∈ led) (hf : f (ba l) = ba l') (hz : l'.length ≤ 1000000)
    (q : ∀ h', St W a xs ρ (updL x (baO (ba l')) led) h' → Q () ⟨h', G, D, tk, O⟩) : wpP W.M A (write (.ref x) f) Q E ⟨h, G, D, tk, O⟩ := by
  unfold write updateBytearray
  dsimp only
  refine bindP (up (wpAny_load (S.get m) ?_))
  dsimp only
  refine bindP (up (wpAny_update (S.get m) ?_))
  have e : Obj.mapBytearray f (baO (ba l)) = baO (ba l') := by unfold Obj.mapBytearray; dsimp only; rw [hf]
  have S' := S.update m (Obj.mapBytearray f) (by rw [e]; rfl)
  rw [e] at S'
  unfold lookBehind
  refine bindP (up (wpAny_loadPart (S'.get (updL_self m)) ?_))
  have p : (baO (ba l')).data.pastItsLine = none := by
    unfold Data.pastItsLine
    dsimp only
    rw [if_neg]
    rw [ba_size, sizeLine_eq]; omega
  rw [p]
  exact pureP (q _ S')

theorem append_ba {x : Addr} {l : List Nat} {i : Int} {t : Tok} {Q : Value → Shared → Prop} (S : St W a xs ρ led h) (m : (x, baO (ba l)) ∈ led) (h0 : 0 ≤ i) (h1 : i < 256) (hz : l.length < 1000000)
    (q : ∀ h', St W a xs ρ (updL x (baO (ba (l ++ [i.toNat]))) led) h' → Q .none ⟨h', G, D, tk, O⟩) : wpP W.M A (call (.builtin "bytearray.append") [.ref x, .int i t]) Q E ⟨h, G, D, tk, O⟩ := by
  refine callP (builtC (okB BA.ok_append) (plainId_quiet BA.slot_append.plain _) BA.entry_append (up (BA.slot_append.check _ _ _ _ _ _ _ _ ⟨_, S.get m, rfl⟩ (BA.args_append_2 _ _) ?_)))
  show wpP _ _ (byteValue (.int i t) >>= fun c => checkResize (.ref x) >>= fun _ => write (.ref x) (·.push c) >>= fun _ => ret .none) _ _ _
  have e : byteValue (.int i t) = pure i.toNat.toUInt8 := by
    show (if (decide (i < 0) || decide (i ≥ 256)) = true then _ else pure i.toNat.toUInt8 : Sem UInt8) = _
    rw [if_neg (by simp; omega)]
  rw [e]
  refine bindP (pureP (bindP (checkResizeP S m (bindP (writeP S m (ba_push l _) (by simp; omega) fun h' S' => ?_)))))
  exact pureP (q h' S')

theorem takeBytes {id : String} {c : Array UInt8} {t : Tok} : takeBufferQuiet? id (.bytes c t) 0 = pure (some (c, none)) := by
  unfold takeBufferQuiet? takeBuffer?
  rw [KBy.special_eq KBy.look_buffer, KBy.own_buffer]
  have e : buffer? id (.bytes c t) (full := (0 : Int) == fullReadOnly) = pure (some c) := by
    unfold buffer?
    rw [KBy.special_eq KBy.look_buffer, KBy.own_buffer, KBy.own_release]
    kernel_rfl
  simp only [pure_bind, Bool.not_true, Bool.false_eq_true, if_false]
  rw [e]
  rfl
theorem extend_ba {x : Addr} {l l' : List Nat} {t : Tok} {Q : Value → Shared → Prop} (S : St W a xs ρ led h) (m : (x, baO (ba l)) ∈ led) (hz : (l ++ l').length ≤ 1000000)
    (q : ∀ h', St W a xs ρ (updL x (baO (ba (l ++ l'))) led) h' → Q .none ⟨h', G, D, tk, O⟩) : wpP W.M A (call (.builtin "bytearray.extend") [.ref x, .bytes (ba l') t]) Q E ⟨h, G, D, tk, O⟩ := by
  refine callP (builtC (okB BA.ok_extend) (plainId_quiet BA.slot_extend.plain _) BA.entry_extend (up (BA.slot_extend.check _ _ _ _ _ _ _ _ ⟨_, S.get m, rfl⟩ (BA.args_extend_2 _ _) ?_)))
  unfold «bytearray.extend»
  refine bindP (m := selfAndOne "bytearray.extend" _) (pureP ?_)
  dsimp only
  rw [KBy.special_eq KBy.look_buffer]
  refine bindP (pureP ?_)
  simp only [Option.isSome_some, if_true]
  refine bindP (ruleP (bindP (up (payloadP S m ?_))))
  rw [takeBytes]
  refine bindP (pureP ?_)
  dsimp only
  simp only [Option.isNone_none, if_true]
  have fin : ∀ {R : Fin → Shared → Prop}, (∀ h', St W a xs ρ (updL x (baO (ba (l ++ l'))) led) h' → R (.done (.ret .none)) ⟨h', G, D, tk, O⟩) → wpP W.M (A.under (.builtin "bytearray.extend" ⟨[.ref x, .bytes (ba l') t], []⟩)) (write (.ref x) (· ++ ba l') >>= fun _ => ret .none) R (fun e s' => E e s') ⟨h, G, D, tk, O⟩ :=
    fun k => bindP (writeP S m (ba_append l l') hz fun h' S' => pureP (k h' S'))
  have bridge : ∀ {R : Fin → Shared → Prop}, (∀ h', St W a xs ρ (updL x (baO (ba (l ++ l'))) led) h' → R (.done (.ret .none)) ⟨h', G, D, tk, O⟩) →
      wpP W.M (A.under (.builtin "bytearray.extend" ⟨[.ref x, .bytes (ba l') t], []⟩)) (do
        if !(ba l').isEmpty then
          checkResize (.ref x)
        write (.ref x) (· ++ ba l')
        ret .none) R (fun e s' => E e s') ⟨h, G, D, tk, O⟩ := fun k => by
    by_cases he : (ba l').isEmpty = true
    · rw [he]; exact fin k
    · rw [Bool.not_eq_true] at he
      rw [he]
      exact bindP (checkResizeP S m (fin k))
  exact bridge fun h' S' => q h' S'

theorem len_ba {x : Addr} {l : List Nat} {Q : Value → Shared → Prop} (S : St W a xs ρ led h) (m : (x, baO (ba l)) ∈ led) (hz : l.length ≤ 1000000)
    (q : ∀ t tk', Q (.int l.length t) ⟨h, G, D, tk', O⟩) : wpAny W.M A (call (.builtin "len") [.ref x]) Q E ⟨h, G, D, tk, O⟩ := by
  refine call_len_slot (T := "bytearray") (id := "bytearray.__len__") (n := l.length) ⟨_, S.get m, rfl⟩ BA.slot_len (fun Q' q' => ?_) (by omega) (by omega) (q _ _)
  refine wpAny_call_entry BA.slot_len ⟨_, S.get m, rfl⟩ BA.entry_len ?_ (BA.args_len_1 _)
  unfold «bytearray.__len__»
  refine wpAny_bind (m := slotArgs "__len__" 0 _) (wpAny_pure ?_)
  dsimp only
  refine wpAny_bind (payloadP S m ?_)
  rw [ba_size]
  exact wpAny_bind (wpAny_mkInt (wpAny_pure ⟨_, rfl, q'⟩))
end
end Mine

end
section
set_option maxRecDepth 100000
open PySem PySem.W PySem.Calls PyProof.Rows
open Sem (wp)
set_option Elab.async false
set_option linter.unusedVariables false
namespace Mine
open Builtin Builtin.Bytes

section
variable {W : Wd} {A : Around} {E : Value → Shared → Prop} {a : Act} {xs : List Str} {ρ : List (Option Value)} {led : List (Addr × Obj)} {h : Heap} {G : Array GenState} {D : Drawn} {tk : Nat} {O : OsState} {env : Env}

theorem subscripted_op (slice : Expr) (o i : Value) : ∃ l, subscripted slice false o i = operate l (getItem o i) := by
  unfold subscripted
  split
  · exact ⟨_, rfl⟩
  · rename_i e; cases e
  · exact ⟨_, rfl⟩
theorem SubscriptP {value slice pos} {Q : Value → Shared → Prop} {s : Shared}
    (k : wpP W.M A (eval value env) (fun o s₁ => wpP W.M A (eval slice env) (fun i s₂ => (∃ T id, typeLookup (.type T) "__getitem__" = pure (some (.builtin id)) ∧ s₂.TypeIs o T) ∧ wpP W.M A (getItem o i) Q E s₂) E s₁) E s) :
    wpP W.M A (eval (.Subscript value slice pos) env) Q E s := by
  rw [eval_Subscript]
  refine bindP (monoP k (fun o s₁ h₁ => bindP (holdP (monoP h₁ (fun i s₂ h₂ => bindP (atP ?_)) fun _ _ x => x))) fun _ _ x => x)
  obtain ⟨⟨T, id, hl, hT⟩, hg⟩ := h₂
  refine bindP ?_
  rw [getitemInPython_of_ne hT.not_modules]
  refine bindP (up (wpAny_specialOf hT hl ?_))
  obtain ⟨l, e⟩ := subscripted_op slice o i
  have fin : wpP W.M A (subscripted slice false o i) (fun r s₃ => wpP W.M A (letTemporaryGo value o r >>= fun _ => pure r) Q E s₃) E s₂ := by
    rw [e]
    exact operateP (monoP hg (fun r s₃ h₃ => bindP (up (wpAny_letTemporaryGo (pureP h₃)))) fun _ _ x => x)
  exact pureP (bindP fin)

/-! octets as a value: bytes, or a bytearray of the ledger -/
def Oct (led : List (Addr × Obj)) (v : Value) (l : List Nat) : Prop := (∃ t, v = .bytes (ba l) t) ∨ ∃ x, v = .ref x ∧ (x, baO (ba l)) ∈ led
theorem ba_get (l : List Nat) (hl : ∀ x ∈ l, x < 256) (i : Nat) (hi : i < l.length) : ∃ c : UInt8, (ba l)[i]? = some c ∧ c.toNat = l.getD i 0 := by
  refine ⟨(l.getD i 0).toUInt8, by simp [ba, List.getD, hi], ?_⟩
  have : l.getD i 0 < 256 := by
    rw [List.getD_eq_getElem?_getD, List.getElem?_eq_getElem hi]
    exact hl _ (List.getElem_mem hi)
  exact Nat.mod_eq_of_lt this
theorem item_oct {v : Value} {l : List Nat} {i : Int} {u : Tok} {Q : Value → Shared → Prop} (S : St W a xs ρ led h) (o : Oct led v l) (hl : ∀ x ∈ l, x < 256) (hz : l.length ≤ 1000000) (h0 : 0 ≤ i) (h1 : i < l.length)
    (q : ∀ t tk', Q (.int (l.getD i.toNat 0) t) ⟨h, G, D, tk', O⟩) :
    (∃ T id, typeLookup (.type T) "__getitem__" = pure (some (.builtin id)) ∧ (⟨h, G, D, tk, O⟩ : Shared).TypeIs v T) ∧ wpP W.M A (getItem v (.int i u)) Q E ⟨h, G, D, tk, O⟩ := by
  have hi : i.toNat < l.length := by omega
  obtain ⟨c, ec, en⟩ := ba_get l hl i.toNat hi
  have hseq : seqIndex? i (ba l).size = some i.toNat := by
    rw [ba_size]
    have hn : ¬ i < 0 := by omega
    simp [seqIndex?, hn]
    exact ⟨h0, h1⟩
  have hb : (seqIndex? i (ba l).size).bind ((ba l)[·]?) = some c := by rw [hseq]; exact ec
  have hfit : fitsIndex i = true := by simp only [fitsIndex, Bool.and_eq_true, decide_eq_true_eq]; omega
  rcases o with ⟨t, rfl⟩ | ⟨x, rfl, m⟩
  · refine ⟨⟨"bytes", _, FB.slot_bytes_getitem.lookup, typeIs_bytes _ _ _⟩, up ?_⟩
    refine getItem_gives (typeIs_bytes _ _ _) (by decide) FB.slot_bytes_getitem FB.entry_bytes_getitem (FB.args_bytes_getitem_2 _ _) (gives_bytes_getitem _ i t u c hfit hb) ?_
    rw [en]; exact q _ _
  · have hT : (⟨h, G, D, tk, O⟩ : Shared).TypeIs (.ref x) "bytearray" := ⟨_, S.get m, rfl⟩
    refine ⟨⟨"bytearray", _, BA.slot_getitem.lookup, hT⟩, up ?_⟩
    refine wpAny_getItem_slot hT (by decide) BA.slot_getitem (wpAny_call_entry BA.slot_getitem hT BA.entry_getitem ?_ (BA.args_getitem_2 _ _))
    unfold «bytearray.__getitem__»
    refine wpAny_bind (m := slotArgs "__getitem__" 1 _) (wpAny_pure ?_)
    dsimp only
    refine wpAny_bind ?_
    unfold Bytes.subscript?
    refine wpAny_bind (wpAny_specialOf (typeIs_int _ i u) F.slot_int_index.lookup ?_)
    show wpAny W.M _ (if (!Bytes.fitsIndex i) = true then _ else pure (some i)) _ _ _
    rw [hfit]
    refine wpAny_pure ?_
    dsimp only
    refine wpAny_bind (payloadP S m ?_)
    rw [hb]
    dsimp only
    refine wpAny_bind (wpAny_mkInt (wpAny_pure ⟨_, rfl, ?_⟩))
    rw [en]; exact q _ _

/-! slices -/
def cut (lo hi : Option Int) {α : Type} (l : List α) : List α := (l.drop (lo.elim 0 (clipAt l.length))).take (hi.elim l.length (clipAt l.length) - lo.elim 0 (clipAt l.length))
theorem picked_ba (l : List Nat) (lo hi : Option Int) : KBy.picked (ba l) lo hi = ba (cut lo hi l) := by
  rw [KBc.picked_eq, ba_size]
  simp [ba, cut, List.map_drop, List.map_take]
theorem cut_length (lo hi : Option Int) {α : Type} (l : List α) : (cut lo hi l).length ≤ l.length := by
  simp only [cut, List.length_take, List.length_drop]; omega
theorem SliceP {lo hi : Option Expr} {pos : Pos} {l u : Option Int} {Q : Value → Shared → Prop} (S : St W a xs ρ led h)
    (hl : match lo with | none => l = none | some e => ∃ i, l = some i ∧ Ev W A env a xs ρ led e (IsI i)) (hu : match hi with | none => u = none | some e => ∃ i, u = some i ∧ Ev W A env a xs ρ led e (IsI i))
    (q : ∀ x lv uv h' tk', IsPart lv l → IsPart uv u → St W a xs ρ ((x, { cls := .type "slice", data := .fields #[lv, uv, .none] }) :: led) h' → (∀ p ∈ led, p.1 ≠ x) → Q (.ref x) ⟨h', G, D, tk', O⟩) :
    wpP W.M A (eval (.Slice lo hi none pos) env) Q E ⟨h, G, D, tk, O⟩ := by
  rw [arm_eval_Slice]
  have fin : ∀ lv uv h tk', St W a xs ρ led h → IsPart lv l → IsPart uv u → wpP W.M A (holding [lv, uv] (valueOrNone (evalOpt none env)) >>= fun st => newFields "slice" [lv, uv, st]) Q E ⟨h, G, D, tk', O⟩ := by
    intro lv uv h tk' S hl hu
    refine bindP (holdP ?_)
    have e : valueOrNone (evalOpt none env) = pure Value.none := rfl
    rw [e]
    refine pureP ?_
    exact up (wpAny_newObj_type (q _ _ _ _ _ hl hu (S.push _) fun p hp => Nat.ne_of_lt (S.led_lt hp)) (by show (3 : Nat) ≤ _; decide))
  have fu : ∀ lv h tk', St W a xs ρ led h → IsPart lv l → wpP W.M A (holding [lv] (valueOrNone (evalOpt hi env)) >>= fun uv => holding [lv, uv] (valueOrNone (evalOpt none env)) >>= fun st => newFields "slice" [lv, uv, st]) Q E ⟨h, G, D, tk', O⟩ := by
    intro lv h tk' S hlv
    refine bindP (holdP ?_)
    cases hi with
    | none =>
      have e : valueOrNone (evalOpt none env) = pure Value.none := rfl
      rw [e]
      subst hu
      exact pureP (fin _ _ _ _ S hlv .none)
    | some e =>
      obtain ⟨i, rfl, hi⟩ := hu
      have e' : valueOrNone (evalOpt (some e) env) = eval e env := rfl
      rw [e']
      exact hi.go S fun v h' tk'' ⟨t, hv⟩ S' => by subst hv; exact fin _ _ _ _ S' hlv (.int _ _)
  refine bindP ?_
  cases lo with
  | none =>
    have e : valueOrNone (evalOpt none env) = pure Value.none := rfl
    rw [e]
    subst hl
    exact pureP (fu _ _ _ S .none)
  | some e =>
    obtain ⟨i, rfl, hi⟩ := hl
    have e' : valueOrNone (evalOpt (some e) env) = eval e env := rfl
    rw [e']
    exact hi.go S fun v h' tk'' ⟨t, hv⟩ S' => by subst hv; exact fu _ _ _ S' (.int _ _)
end
end Mine

end
section
set_option maxRecDepth 100000
open PySem PySem.W PySem.Calls PyProof.Rows
open Sem (wp)
set_option Elab.async false
set_option linter.unusedVariables false
namespace Mine
open Builtin Builtin.Bytes

section
variable {W : Wd} {A : Around} {E : Value → Shared → Prop} {a : Act} {xs : List Str} {ρ : List (Option Value)} {led : List (Addr × Obj)} {h h' : Heap} {G : Array GenState} {D : Drawn} {tk : Nat} {O : OsState} {env : Env}

theorem St.grow (S : St W a xs ρ led h) (k : ∀ b o, h.get? b = some o → h'.get? b = some o) : St W a xs ρ led h' := by
  obtain ⟨m, F, hm⟩ := S.vars
  obtain ⟨oL, es, ep, hL, r⟩ := F.ns
  refine ⟨S.ok, ⟨m, ⟨⟨oL, es, ep, k _ _ hL, r⟩, fun b x q => k _ _ (F.keep b x q), F.above⟩, hm⟩, fun p hp => ⟨k _ _ (S.news p hp).1, (S.news p hp).2⟩, fun q hq => ?_, S.apart⟩
  obtain ⟨sl, z⟩ := S.frms q hq
  exact ⟨sl, k _ _ z⟩

theorem made_new {v : Value} {l : List Nat} {Q : Value → Shared → Prop} (S : St W a xs ρ led h) (o : Oct led v l) (hz : l.length ≤ 1000000) (q : ∀ t tk', Q (.bytes (ba l) t) ⟨h, G, D, tk', O⟩) :
    codeAny W.M A (.call (.builtin "bytes.__new__") ⟨[.type "bytes", v], []⟩) (wants Q E) ⟨h, G, D, tk, O⟩ := by
  refine codeAny_of_tree ?_
  show wpAny _ A.in1 (do checkBuiltinCall "bytes.__new__" ⟨[.type "bytes", v], []⟩; again (.builtin "bytes.__new__" ⟨[.type "bytes", v], []⟩)) _ _ _
  refine wpAny_bind (wpAny_of_eq (F.bm_newCall _) (wpAny_pure ⟨plainId_quiet F.bm_plain _, codeAny_builtin F.bm_entry ?_⟩))
  rw [Around.under_plainId F.bm_plain _]
  unfold Builtin.«bytes.__new__»
  refine wpAny_bind (wpAny_of_eq (a := true) rfl ?_)
  refine bm_if_false rfl ?_
  refine wpAny_bind (wpAny_of_eq F.bm_sub ?_)
  refine bm_if_false rfl ?_
  refine wpAny_bind (wpAny_of_eq (F.bm_bind _) ?_)
  refine wpAny_bind (wpAny_of_eq (a := ()) rfl ?_)
  refine wpAny_bind (wpAny_of_eq (a := ()) rfl ?_)
  refine bm_if_false rfl ?_
  rcases o with ⟨t, rfl⟩ | ⟨x, rfl, m⟩
  · rw [KBy.special_eq BA.look_bytes_bytes]
    refine wpAny_bind (wpAny_pure ?_)
    dsimp only
    refine wpAny_bind (wpAny_rule ?_)
    refine wpAny_bind (wpAny_typeOf (typeIs_bytes _ _ _) ?_)
    refine bm_if_true rfl ?_
    exact wpAny_pure (q _ _)
  · have hT : (⟨h, G, D, tk, O⟩ : Shared).TypeIs (.ref x) "bytearray" := ⟨_, S.get m, rfl⟩
    refine wpAny_bind (wpAny_specialOf hT BA.look_bytes ?_)
    refine wpAny_bind (wpAny_bind ?_)
    show wpAny _ _ (load x >>= _) _ _ _
    refine wpAny_bind (wpAny_load (S.get m) ?_)
    dsimp only
    refine wpAny_pure (wpAny_pure ?_)
    refine bm_if_false rfl ?_
    refine wpAny_bind (wpAny_specialOf hT BA.look_index ?_)
    refine bm_if_true rfl ?_
    first
      | show wpAny _ _ (Builtin.Bytes.buffer? "bytes.__new__" (.ref x) true >>= _) _ _ _
      | (refine wpAny_bind ?_; show wpAny _ _ (Builtin.Bytes.buffer? "bytes.__new__" (.ref x) true >>= _) _ _ _)
    refine wpAny_bind ?_
    have own : ∀ {A : Around} {name : String} {E : Value → Shared → Prop} {Q : Bool → Shared → Prop} (hl : typeLookup (.type "bytearray") (name : Str) = pure (some (.builtin ("bytearray." ++ name)))) (h1 : ("bytearray." ++ name).endsWith ("." ++ name) = true) (h2 : ("bytearray." ++ name).dropRight (name.length + 1) = "bytearray"),
        Q true ⟨h, G, D, tk, O⟩ → wpAny W.M A (slotIsOwn (.ref x) name) Q E ⟨h, G, D, tk, O⟩ := fun hl h1 h2 q => by
      unfold slotIsOwn
      refine wpAny_bind (wpAny_specialOf hT hl ?_)
      dsimp only
      rw [h1, h2]
      exact wpAny_isInstance hT BA.sub_self q
    unfold Builtin.Bytes.buffer?
    refine wpAny_bind (wpAny_specialOf hT BA.look_buffer ?_)
    dsimp only
    refine wpAny_bind (own (name := "__buffer__") BA.look_buffer (by decide +kernel) (by decide +kernel) ?_)
    refine bm_if_false rfl ?_
    refine wpAny_bind (wpAny_specialOf hT BA.look_buffer ?_)
    show wpAny _ _ (ownRelease (.ref x) >>= fun r => _) _ _ _
    refine wpAny_bind ?_
    unfold ownRelease
    refine wpAny_bind (own (name := "__release_buffer__") BA.look_release (by decide +kernel) (by decide +kernel) ?_)
    refine wpAny_pure ?_
    refine bm_if_false rfl ?_
    refine wpAny_bind (payloadP S m ?_)
    refine wpAny_pure ?_
    dsimp only
    refine wpAny_bind (wpAny_rule (wpAny_bind ?_))
    refine wpAny_mkBytes ?_ (by rw [ba_size, sizeLine_eq]; omega)
    exact wpAny_pure (q _ _)

theorem bytes_oct {v : Value} {l : List Nat} {Q : Value → Shared → Prop} (S : St W a xs ρ led h) (o : Oct led v l) (hz : l.length ≤ 1000000) (q : ∀ t tk', Q (.bytes (ba l) t) ⟨h, G, D, tk', O⟩) :
    wpAny W.M A (call (.type "bytes") [v]) Q E ⟨h, G, D, tk, O⟩ := by
  refine callType_codes (Q₁ := fun obj s₁ => s₁.TypeIs obj "bytes" ∧ Q obj s₁) F.bm_called (F.bm_typeCall _) F.entry_object_init (made_new S o hz fun t tk' => ⟨typeIs_bytes _ _ _, q t tk'⟩) fun obj s₁ h₁ => ?_
  exact ⟨h₁.1, F.args_object_init_2 obj _, object_init_meets F.bm_called.init.lookup F.bm_called.made (by decide) W.prog W.w A.in1 _ s₁ ⟨h₁.1, rfl, h₁.2⟩⟩

/-! slices of octets and of lists -/
theorem slice_oct {v lv uv : Value} {l : List Nat} {x : Addr} {lo hi : Option Int} {Q : Value → Shared → Prop} (S : St W a xs ρ led h) (o : Oct led v l) (m : (x, { cls := .type "slice", data := .fields #[lv, uv, .none] }) ∈ led) (hl : IsPart lv lo) (hu : IsPart uv hi) (hz : l.length ≤ 1000000)
    (q : ∀ v' led' h' tk', St W a xs ρ led' h' → (∀ p ∈ led, p ∈ led') → Oct led' v' (cut lo hi l) → Q v' ⟨h', G, D, tk', O⟩) :
    (∃ T id, typeLookup (.type T) "__getitem__" = pure (some (.builtin id)) ∧ (⟨h, G, D, tk, O⟩ : Shared).TypeIs v T) ∧ wpP W.M A (getItem v (.ref x)) Q E ⟨h, G, D, tk, O⟩ := by
  have hcl := cut_length lo hi l
  rcases o with ⟨t, rfl⟩ | ⟨y, rfl, mb⟩
  · refine ⟨⟨"bytes", _, FB.slot_bytes_getitem.lookup, typeIs_bytes _ _ _⟩, up ?_⟩
    refine getItem_meets (typeIs_bytes _ _ _) (by decide) FB.slot_bytes_getitem FB.entry_bytes_getitem (FB.args_bytes_getitem_2 _ _) (KBc.meets_slice2 (ba l) t x hl hu) ⟨⟨_, S.get m, rfl, rfl⟩, ?_, fun t' k => ?_⟩
    · rw [picked_ba, ba_size, sizeLine_eq]; omega
    · rw [picked_ba]; exact q _ _ _ _ S (fun p hp => hp) (.inl ⟨_, rfl⟩)
  · have hT : (⟨h, G, D, tk, O⟩ : Shared).TypeIs (.ref y) "bytearray" := ⟨_, S.get mb, rfl⟩
    refine ⟨⟨"bytearray", _, BA.slot_getitem.lookup, hT⟩, up ?_⟩
    refine wpAny_getItem_slot hT (by decide) BA.slot_getitem (wpAny_call_entry BA.slot_getitem hT BA.entry_getitem ?_ (BA.args_getitem_2 _ _))
    have hTs : (⟨h, G, D, tk, O⟩ : Shared).TypeIs (.ref x) "slice" := ⟨_, S.get m, rfl⟩
    unfold «bytearray.__getitem__»
    refine wpAny_bind (m := slotArgs "__getitem__" 1 _) (wpAny_pure ?_)
    dsimp only
    refine wpAny_bind ?_
    unfold Bytes.subscript?
    refine wpAny_bind (wpAny_specialOf hTs slice_no_index (wpAny_pure ?_))
    dsimp only
    refine wpAny_bind (wpAny_typeOf hTs ?_)
    refine bm_if_false rfl ?_
    refine wpAny_bind ?_
    unfold Bytes.sliceParts
    have go : ∀ A, wpAny W.M A (sliceIndices (rawPart lo) (rawPart hi) (rawPart none) (ba l).size) (fun r s' => r = sliceBounds lo hi none (ba l).size ∧ s' = ⟨h, G, D, tk, O⟩) (fun _ _ => False) ⟨h, G, D, tk, O⟩ :=
      fun A => wpAny_of_eq (sliceIndices_raw lo hi none _ (fun e => nomatch e)) ⟨rfl, rfl⟩
    have part : ∀ {A E Q} (v : Value) (p : Option Int), IsPart v p → Q (rawPart p) ⟨h, G, D, tk, O⟩ → wpAny W.M A (do
        if v == .none then return .none
        if (← specialOf v "__index__").isNone then
          rule "bytes.slice.part-no-index"; raiseError "TypeError" "slice indices must be integers or None or have an __index__ method"
        return rawInt (← asIndex v)) Q E ⟨h, G, D, tk, O⟩ := fun v p hp q => by
      cases hp with
      | none => exact wpAny_pure q
      | int i t =>
        refine bm_if_false rfl ?_
        refine wpAny_bind (wpAny_specialOf (typeIs_int _ i t) F.slot_int_index.lookup ?_)
        refine bm_if_false rfl ?_
        exact wpAny_pure q
    refine wpAny_bind (wpAny_field (x := .none) (S.get m) rfl rfl ?_)
    refine wpAny_bind (part _ none .none ?_)
    refine bm_if_false rfl ?_
    refine wpAny_bind (wpAny_field (x := lv) (S.get m) rfl rfl ?_)
    refine wpAny_bind (part _ lo hl ?_)
    refine wpAny_bind (wpAny_field (x := uv) (S.get m) rfl rfl ?_)
    refine wpAny_bind (part _ hi hu ?_)
    refine wpAny_pure ?_
    dsimp only
    refine wpAny_bind (payloadP S mb ?_)
    refine wpAny_bind (wpAny_mono (go _) (fun r s' hr => ?_) fun _ _ e => e.elim)
    obtain ⟨rfl, rfl⟩ := hr
    have e : Bytes.sliced (ba l) (sliceBounds lo hi none (ba l).size).1 (sliceBounds lo hi none (ba l).size).2.1 (sliceBounds lo hi none (ba l).size).2.2 = ba (cut lo hi l) := picked_ba l lo hi
    rw [e]
    refine wpAny_bind ?_
    unfold newBytearray
    refine wpAny_newObj_type ?_ (by show (ba (cut lo hi l)).size ≤ _; rw [ba_size, sizeLine_eq]; omega)
    exact wpAny_pure ⟨_, rfl, q _ _ _ _ (S.push (baO (ba (cut lo hi l)))) (fun p hp => .tail _ hp) (.inr ⟨_, rfl, .head _⟩)⟩
theorem slicePick_cut (vs : List Value) (lo hi : Option Int) : slicePick vs.toArray lo hi none = (cut lo hi vs).toArray := by
  rw [slicePick_plain]; simp [cut]
theorem slice_list {lv uv : Value} {vs : List Value} {y x : Addr} {n : Nat} {lo hi : Option Int} {Q : Value → Shared → Prop} (S : St W a xs ρ led h) (my : (y, lstO vs n) ∈ led) (m : (x, { cls := .type "slice", data := .fields #[lv, uv, .none] }) ∈ led) (hl : IsPart lv lo) (hu : IsPart uv hi) (hz : vs.length ≤ 1000000)
    (q : ∀ z h' tk', St W a xs ρ ((z, lstO (cut lo hi vs)) :: led) h' → (∀ p ∈ led, p.1 ≠ z) → Q (.ref z) ⟨h', G, D, tk', O⟩) :
    (∃ T id, typeLookup (.type T) "__getitem__" = pure (some (.builtin id)) ∧ (⟨h, G, D, tk, O⟩ : Shared).TypeIs (.ref y) T) ∧ wpP W.M A (getItem (.ref y) (.ref x)) Q E ⟨h, G, D, tk, O⟩ := by
  have hL : h.IsList y vs.toArray := ⟨_, S.get my, rfl, _, rfl⟩
  refine ⟨⟨"list", _, slot_list_getitem.lookup, hL.typeIs⟩, up ?_⟩
  refine wpAny_getItem_list_slice hL ⟨_, S.get m, rfl, rfl⟩ hl hu .none (fun e => nomatch e) ?_ (by rw [List.size_toArray, sizeLine_eq]; omega)
  rw [slicePick_cut]
  exact q _ _ _ (S.push _) fun p hp => Nat.ne_of_lt (S.led_lt hp)
end
end Mine

end
section
set_option maxRecDepth 100000
open PySem PySem.W PySem.Calls PyProof.Rows
open Sem (wp)
set_option Elab.async false
set_option linter.unusedVariables false
namespace Mine
open Builtin Builtin.Bytes

set_option maxRecDepth 1000000 in
set_option maxHeartbeats 4000000 in
theorem owner_ba_new : ("bytearray.__new__".splitOn ".__new__").headD "" = "bytearray" := by simp +decide [String.splitOn, String.splitOnAux]

section
variable {W : Wd} {A : Around} {E : Value → Shared → Prop} {a : Act} {xs : List Str} {ρ : List (Option Value)} {led : List (Addr × Obj)} {h h' : Heap} {G : Array GenState} {D : Drawn} {tk : Nat} {O : OsState} {env : Env}

theorem new_ba {vs : List Value} {Q : Value → Shared → Prop} (hc : checkBuiltinCall "bytearray.__new__" ⟨.type "bytearray" :: vs, []⟩ = pure ()) {s : Shared} (q : Q (.ref s.heap.objs.size) { s with heap := s.heap.push (baO (ba [])) }) :
    codeAny W.M A (.call (.builtin "bytearray.__new__") ⟨.type "bytearray" :: vs, []⟩) (wants Q E) s := by
  refine codeAny_of_tree ?_
  show wpAny _ A.in1 (do checkBuiltinCall "bytearray.__new__" ⟨.type "bytearray" :: vs, []⟩; again (.builtin "bytearray.__new__" ⟨.type "bytearray" :: vs, []⟩)) _ _ s
  refine wpAny_bind (wpAny_of_eq hc (wpAny_pure ⟨plainId_quiet BA.plain_new _, codeAny_builtin_stack BA.entry_new rfl fun p st => ?_⟩))
  rw [Around.under_plainId BA.plain_new _]
  have hsub := BA.sub_self
  have hown := owner_ba_new
  obtain ⟨hp, g, d, tk, os⟩ := s
  simp only [hown]
  wp_walk
  exact q

theorem ifF {α : Type} {M : Model} {c : Bool} {x y : Sem α} {Q : α → Shared → Prop} {s : Shared} (hc : c = false) (h : wpP M A y Q E s) : wpP M A (if c = true then x else y) Q E s := by
  rw [hc, if_neg (by decide)]; exact h
theorem ifT {α : Type} {M : Model} {c : Bool} {x y : Sem α} {Q : α → Shared → Prop} {s : Shared} (hc : c = true) (h : wpP M A x Q E s) : wpP M A (if c = true then x else y) Q E s := by
  rw [hc, if_pos rfl]; exact h
theorem eqP {α : Type} {M : Model} {t : Sem α} {x : α} {Q : α → Shared → Prop} {s : Shared} (e : t = pure x) (h : Q x s) : wpP M A t Q E s := by rw [e]; exact pureP h
theorem builtinC {id : String} {args : Args} {b : Builtin} {R : Result → Shared → Prop} {s : Shared} (ok : okCode (.builtin id args) = true) (hb : entryFor table id = some b)
    (k : wpP W.M (A.under (.builtin id args)) (b args) (fun fin s' => match fin with | .done f => R (.ok f) s' | .again c' => c'.quiet = true ∧ codeP W.M A c' R s') (fun e s' => R (.error e) s') s) : codeP W.M A (.builtin id args) R s := by
  refine treeC ok ?_
  show wpP _ _ (match entryFor table id with | some b => b args | none => unsupported ((withoutEnding? id "#data").getD id)) _ _ s
  rw [hb]; exact k
theorem upCall {c : Code} {Q E : Value → Shared → Prop} {s : Shared} (k : codeAny W.M A c (wants Q E) s) : codeP W.M A c (fun r s' => match r with | .ok (.ret v) => Q v s' | .ok _ => False | .error e => E e s') s :=
  monoC (upC k) fun r s' z => by
    rcases r with e | (v | _ | _ | _) <;> exact z
/-- the call of the bytearray type -/
theorem typeCall_ba {vs : List Value} {Q : Value → Shared → Prop} (S : St W a xs ρ led h) (hct : checkTypeCall "bytearray" ⟨vs, []⟩ = pure ()) (hcn : checkBuiltinCall "bytearray.__new__" ⟨.type "bytearray" :: vs, []⟩ = pure ()) (hai : ∀ v, argsOk "bytearray.__init__" ⟨v :: vs, []⟩)
    (k : ∀ x h' A', St W a xs ρ ((x, baO (ba [])) :: led) h' → (∀ p ∈ led, p.1 ≠ x) → wpP W.M A' (Builtin.«bytearray.__init__» ⟨.ref x :: vs, []⟩) (fun f s' => f = .done (.ret .none) ∧ Q (.ref x) s') (fun _ _ => False) ⟨h', G, D, tk, O⟩) :
    wpP W.M A (call (.type "bytearray") vs) Q E ⟨h, G, D, tk, O⟩ := by
  have ft := BA.called
  refine callP (treeC rfl ?_)
  show wpP _ _ (callAny (.type "bytearray") _) _ _ _
  refine pureP (a := Fin.again (.builtin "type.__call__" ⟨.type "bytearray" :: vs, []⟩)) ⟨q_tc _, ?_⟩
  refine builtinC (okB ok_tc) F.entry_type_call ?_
  unfold Builtin.«type.__call__»
  refine ifF ft.notType ?_
  refine ifF ft.canCreate ?_
  refine bindP (eqP hct ?_)
  refine bindP (eqP BA.mro ?_)
  refine ifF rfl ?_
  refine bindP (eqP ft.made ?_)
  refine bindP (pureP (bindP (holdP ?_)))
  have S₂ := S.push (baO (ba []))
  refine callP (upCall (new_ba hcn ?_))
  have hT : (⟨h.push (baO (ba [])), G, D, tk, O⟩ : Shared).TypeIs (.ref h.objs.size) "bytearray" := ⟨_, S₂.get (.head _), rfl⟩
  refine bindP (up (wpAny_isInstance hT BA.sub_self ?_))
  refine ifF rfl ?_
  refine bindP (holdP ?_)
  unfold callSpecial? specialOf
  refine bindP (bindP (up (wpAny_typeOf hT ?_)))
  rw [ft.init.lookup]
  refine pureP ?_
  dsimp only
  refine holdP ?_
  rw [ft.init.bind]
  refine bindP (pureP ?_)
  dsimp only
  refine bindP (callP (builtC (okB BA.ok_init) (plainId_quiet ft.init.plain _) BA.entry_init (up (ft.init.check _ _ _ _ _ _ _ _ hT (hai _) ?_))))
  refine monoP (k _ _ _ S₂ fun p hp => Nat.ne_of_lt (S.led_lt hp)) (fun f s' z => ?_) fun _ _ z => z.elim
  obtain ⟨rfl, z⟩ := z
  exact pureP (pureP z)
theorem own_release_ba {x : Addr} {o : Obj} {s : Shared} {Q : Bool → Shared → Prop} (ho : s.heap.get? x = some o) (hc : o.cls = .type "bytearray") (q : Q false s) : wpAny W.M A (ownRelease (.ref x)) Q E s := by
  have hT : s.TypeIs (.ref x) "bytearray" := ⟨_, ho, hc⟩
  unfold ownRelease slotIsOwn
  refine wpAny_bind (wpAny_bind (wpAny_specialOf hT BA.look_release ?_))
  dsimp only
  rw [show ("bytearray.__release_buffer__".endsWith ("." ++ "__release_buffer__")) = true by decide +kernel, show ("bytearray.__release_buffer__".dropRight ("__release_buffer__".length + 1)) = "bytearray" by decide +kernel]
  exact wpAny_isInstance hT BA.sub_self (wpAny_pure q)

theorem buffer_full {id : String} {b : Array UInt8} {t : Tok} : buffer? id (.bytes b t) (full := true) = pure (some b) := by
  unfold buffer?
  rw [KBy.special_eq KBy.look_buffer, KBy.own_buffer, KBy.own_release]
  kernel_rfl
theorem init_ba {v : Value} {x : Addr} {l : List Nat} {t : Tok} {A' : Around} {Q : Fin → Shared → Prop} (S : St W a xs ρ led h) (m : (x, baO (ba [])) ∈ led) (hv : v = .bytes (ba l) t) (hz : l.length ≤ 1000000)
    (q : ∀ h', St W a xs ρ (updL x (baO (ba l)) (updL x (baO (ba [])) led)) h' → Q (.done (.ret .none)) ⟨h', G, D, tk, O⟩) : wpP W.M A' (Builtin.«bytearray.__init__» ⟨[.ref x, v], []⟩) Q E ⟨h, G, D, tk, O⟩ := by
  subst hv
  unfold Builtin.«bytearray.__init__»
  dsimp only
  refine bindP (up (own_release_ba (S.get m) rfl ?_))
  refine ifF rfl ?_
  refine bindP (eqP (BA.bind_1 _) ?_)
  dsimp only
  refine bindP (m := checkCodecArg _ _ _ none) (pureP (bindP (m := checkCodecArg _ _ _ none) (pureP ?_)))
  refine bindP (bindP (exportedP (bindP ?_)))
  unfold exportsOf
  refine bindP (up (wpAny_load (S.get m) ?_))
  refine pureP (pureP ?_)
  refine ifF rfl ?_
  refine bindP (writeP S m (l' := []) rfl (by simp) fun h₁ S₁ => ?_)
  refine bindP (m := asStr? _) (pureP ?_)
  refine ifF rfl ?_
  refine bindP (pureP ?_)
  refine bindP (eqP (KBy.special_eq BA.no_index_bytes) ?_)
  refine ifF rfl ?_
  refine bindP (eqP buffer_full ?_)
  dsimp only
  refine bindP (ruleP ?_)
  refine bindP (writeP S₁ (updL_self m) (l' := l) rfl hz fun h₂ S₂ => ?_)
  exact pureP (q h₂ S₂)
theorem call_ba0 {Q : Value → Shared → Prop} (S : St W a xs ρ led h) (q : ∀ x h', St W a xs ρ ((x, baO (ba [])) :: led) h' → (∀ p ∈ led, p.1 ≠ x) → Q (.ref x) ⟨h', G, D, tk, O⟩) : wpP W.M A (call (.type "bytearray") []) Q E ⟨h, G, D, tk, O⟩ := by
  refine typeCall_ba S BA.typeCall_0 BA.newCall_0 (fun v => BA.args_init_1 v) fun x h' A' S' ne => ?_
  have m := List.Mem.head (a := (x, baO (ba []))) (as := led)
  unfold Builtin.«bytearray.__init__»
  dsimp only
  refine bindP (up (own_release_ba (S'.get m) rfl ?_))
  refine ifF rfl ?_
  refine bindP (eqP BA.bind_0 ?_)
  dsimp only
  refine bindP (m := checkCodecArg _ _ _ none) (pureP (bindP (m := checkCodecArg _ _ _ none) (pureP ?_)))
  refine bindP (bindP (exportedP (bindP ?_)))
  unfold exportsOf
  refine bindP (up (wpAny_load (S'.get m) ?_))
  refine pureP (pureP ?_)
  refine ifF rfl ?_
  refine bindP (writeP S' m (l' := []) rfl (by simp) fun h₁ S₁ => ?_)
  refine bindP (pureP ?_)
  exact pureP ⟨rfl, q x h₁ (S₁.onLed fun p hp => by
    rcases List.mem_cons.mp hp with rfl | hp
    · exact updL_self m
    · exact updL_ne (.tail _ hp) (ne p hp)) ne⟩
theorem call_ba1 {l : List Nat} {t : Tok} {Q : Value → Shared → Prop} (S : St W a xs ρ led h) (hz : l.length ≤ 1000000) (q : ∀ x h', St W a xs ρ ((x, baO (ba l)) :: led) h' → (∀ p ∈ led, p.1 ≠ x) → Q (.ref x) ⟨h', G, D, tk, O⟩) : wpP W.M A (call (.type "bytearray") [.bytes (ba l) t]) Q E ⟨h, G, D, tk, O⟩ := by
  refine typeCall_ba S (BA.typeCall_1 _) (BA.newCall_1 _) (fun v => BA.args_init_2 v _) fun x h' A' S' ne => ?_
  have m := List.Mem.head (a := (x, baO (ba []))) (as := led)
  refine init_ba S' m rfl hz fun h₂ S₂ => ⟨rfl, q x h₂ (S₂.onLed fun p hp => ?_) ne⟩
  rcases List.mem_cons.mp hp with rfl | hp
  · exact updL_self (updL_self m)
  · exact updL_ne (updL_ne (.tail _ hp) (ne p hp)) (ne p hp)
theorem call_bytes_list {y : Addr} {vs : List Value} {ns : List Nat} {n : Nat} {Q : Value → Shared → Prop} (S : St W a xs ρ led h) (m : (y, lstO vs n) ∈ led) (hi : PyProof.Rows.IntsAre vs (ns.map Int.ofNat)) (hr : ∀ n ∈ ns, n < 256) (hz : ns.length ≤ 1000000) (hh : A.handled = none)
    (q : ∀ t h' tk', St W a xs ρ led h' → Q (.bytes (ba ns) t) ⟨h', G, D, tk', O⟩) : wpP W.M A (call (.type "bytes") [.ref y]) Q E ⟨h, G, D, tk, O⟩ := by
  have e : byteArr (ns.map Int.ofNat) = ba ns := by simp [byteArr, ba]
  refine up (call_bytes_ints ⟨_, S.get m, rfl, _, rfl⟩ hi (fun n hn => ?_) (by rw [hi.length, List.length_map, sizeLine_eq]; omega) hh fun h' t k hk => ?_)
  · obtain ⟨m, hm, rfl⟩ := List.mem_map.mp hn
    have := hr m hm
    exact ⟨Int.natCast_nonneg _, by show ((m : Nat) : Int) < 256; omega⟩
  · rw [e]; exact q _ _ _ (S.grow hk)
end
end Mine

end
section
set_option maxRecDepth 100000
open PySem PySem.W PySem.Calls PyProof.Rows
open Sem (wp)
set_option Elab.async false
set_option linter.unusedVariables false
namespace Mine
open Builtin Builtin.Bytes

structure AttrF (W : Wd) (C : Addr) (name : Str) : Prop where
  plain : plainGet W.K C name = true
  hasD : hasDictIn W.K C = true
  find : findIn W.K (.ref C) name = some none
  sett : findIn W.K (.ref C) "__setattr__" = some (some (.builtin "object.__setattr__"))
  over : plainOver W.K C = true
  taker : takerIn W.K C name = some none
structure MethF (W : Wd) (C : Addr) (name : Str) (f : Addr) : Prop where
  plain : plainGet W.K C name = true
  find : findIn W.K (.ref C) name = some (some (.ref f))
  isfn : isFn W.K (.ref f) = true
  keep : keepIn W.K (.ref f) = true
def keepV (K : Frag) (f : Value) : Bool := match f with
  | .ref _ => keepIn K f
  | _ => true

section
variable {W : Wd} {A : Around} {E : Value → Shared → Prop} {a : Act} {xs : List Str} {ρ : List (Option Value)} {led : List (Addr × Obj)} {h h' : Heap} {G : Array GenState} {D : Drawn} {tk : Nat} {O : OsState} {env : Env}

theorem getAttrP {x dx C : Addr} {name : Str} {es : List DictEntry} {n : Nat} {v : Value} {b : Bool} {Q : Value → Shared → Prop} (S : St W a xs ρ led h) (mx : (x, instObj C dx) ∈ led) (md : (dx, dictOf es n) ∈ led) (AF : AttrF W C name) (hl : getL name es = some (some v)) (hv : handedIn v = true)
    (q : ∀ tk', Q v ⟨h, G, D, tk', O⟩) : wpP W.M A (getAttr (.ref x) name b) Q E ⟨h, G, D, tk, O⟩ := by
  obtain ⟨m, F, _⟩ := S.vars
  refine up (get_own F S.ok.X ⟨S.get mx, rfl, rfl, S.get md⟩ AF.plain AF.hasD AF.find rfl hl hv ?_)
  exact q _
theorem Ev.attr {x dx C : Addr} {self name : Str} {np pos : Pos} {i : Nat} {es : List DictEntry} {n : Nat} {v : Value} (N : EnvOK env a xs) (hx : At xs i self) (hv : ρ[i]? = some (some (.ref x))) (mx : (x, instObj C dx) ∈ led) (md : (dx, dictOf es n) ∈ led)
    (AF : AttrF W C name) (hl : getL name es = some (some v)) (hh : handedIn v = true) : Ev W A env a xs ρ led (.Attribute (.Name self np) name pos) (· = v) := by
  refine ⟨fun S q => ?_⟩
  rw [arm_eval_Attribute]
  refine bindP (m := eval (.Name self np) env) ((Ev.loc N hx hv).go S fun _ h' tk' e S => ?_)
  subst e
  refine bindP (atP (bindP (holdP (getAttrP S mx md AF hl hh fun tk' => ?_))))
  exact bindP (m := letTemporaryGo (.Name self np) _ _) (up (wpAny_letTemporaryGo (pureP (q _ _ _ rfl S))))
theorem setAttrP {x dx C : Addr} {name : Str} {es : List DictEntry} {n : Nat} {v : Value} {Q : Unit → Shared → Prop} (S : St W a xs ρ led h) (mx : (x, instObj C dx) ∈ led) (md : (dx, dictOf es n) ∈ led) (AF : AttrF W C name) (hl : (getL name es).isSome = true) (hz : es.length < 1000)
    (q : ∀ t h' tk', St W a xs ρ (updL dx (dictOf (putL name (PyData.keyHash W.w.params name) (.str name t) v es) (putN name es n)) led) h' → Q () ⟨h', G, D, tk', O⟩) : wpP W.M A (setAttr (.ref x) name v) Q E ⟨h, G, D, tk, O⟩ := by
  obtain ⟨m, F, hm⟩ := S.vars
  obtain ⟨fn, e1, N1, e3, e4⟩ := S.frames
  have ne_fn : ∀ p ∈ fn, p.1 ≠ dx := fun p hp => by
    obtain ⟨q, hq, z, _⟩ := e4 p hp
    rw [z]; exact (S.apart q hq (dx, dictOf es n) md).symm
  have hlen : (putL name (PyData.keyHash W.w.params name) (.str name (tk + 1)) v es).length ≤ es.length + 1 := by
    have : ∀ l : List DictEntry, (putL name (PyData.keyHash W.w.params name) (.str name (tk + 1)) v l).length ≤ l.length + 1 := by
      intro l
      induction l with
      | nil => simp [putL]
      | cons e r ih =>
        unfold putL
        split
        · simp
        · simp only [List.length_cons]; omega
    exact this es
  refine up (set_dict (dx := dx) (news := (dx, dictOf es n) :: (fn ++ led).filter (fun p => p.1 != dx)) F S.ok.X ?_ ⟨S.get mx, rfl, rfl, S.get md⟩ rfl AF.sett AF.over AF.taker AF.hasD hl rfl (.head fun p hp => by simpa using (List.mem_filter.mp hp).2) (Nat.le_trans hlen hz) fun h' F' N' => q (tk + 1) _ _ ?_)
  · intro p hp
    rcases List.mem_cons.mp hp with rfl | hp
    · exact S.news _ md
    · rcases List.mem_append.mp (List.mem_filter.mp hp).1 with hp | hp
      · exact N1 p hp
      · exact S.news p hp
  · refine S.again (ρ' := ρ) (fn := fn) F' hm (fun p hp => ?_) e3 (fun p hp => N' p (.tail _ (List.mem_filter.mpr ⟨List.mem_append_left _ hp, by simpa using ne_fn p hp⟩))) fun q hq p hp => ?_
    · rcases mem_updL hp with rfl | ⟨hp, n⟩
      · exact N' _ (.head _)
      · exact N' p (.tail _ (List.mem_filter.mpr ⟨List.mem_append_right _ hp, by simpa using n⟩))
    · rcases mem_updL hp with rfl | ⟨hp, n⟩
      · exact S.apart q hq (dx, dictOf es _) md
      · exact S.apart q hq p hp

/-! calls -/
theorem keeps_V {f : Value} (hk : keepV W.K f = true) (h : Heap) (X : W.K.In h) : ∃ k, (k = Keeper.frame ∨ k = Keeper.machine ∨ k = Keeper.boundFrame) ∧ Looks W.M h (keeperOf f) k := by
  cases f with
  | ref b => exact keeps_K (show keepIn W.K (.ref b) = true from hk) h X
  | _ => exact ⟨.machine, .inr (.inl rfl), .now⟩
theorem CallNameP {x : Str} {np pos : Pos} {fv : Value} {args : List Expr} {Q : Value → Shared → Prop} (N : EnvOK env a xs) (S : St W a xs ρ led h) (g : GV W x fv) (hk : keepV W.K fv = true)
    (k : ∀ h tk, St W a xs ρ led h → wpP W.M A (spliced (backTo pos (starEach args env))) (fun vs s₁ => W.K.In s₁.heap ∧ wpP W.M A (PySem.call fv vs) Q E s₁) E ⟨h, G, D, tk, O⟩)
    (hx : (env.kindOf x == some .globalImplicit && !(x == ("__debug__" : Str))) = true := by kernel_rfl) (hp : (backTo pos (starEach args env)).any (·.1) = false := by rfl) :
    wpP W.M A (eval (.Call (.Name x np) args [] pos) env) Q E ⟨h, G, D, tk, O⟩ := by
  rw [arm_eval_Call_Name']
  exact bindP ((Ev.glob N g hx).go S fun _ h' tk' e S => by
    subst e
    exact callWithP (P := fun h => W.K.In h) (fun h X => keeps_V hk h X) (k _ _ S) hp)
/-- the same, where the arguments leave the heap as it is -/
theorem CallE {x : Str} {np pos : Pos} {fv : Value} {args : List Expr} {P : List Value → Prop} {Q : Value → Shared → Prop} (N : EnvOK env a xs) (S : St W a xs ρ led h) (g : GV W x fv) (hk : keepV W.K fv = true) (ha : EvL W A env a xs ρ led args P)
    (k : ∀ vs h tk, P vs → St W a xs ρ led h → wpP W.M A (PySem.call fv vs) Q E ⟨h, G, D, tk, O⟩)
    (hx : (env.kindOf x == some .globalImplicit && !(x == ("__debug__" : Str))) = true := by kernel_rfl) (hp : (backTo pos (starEach args env)).any (·.1) = false := by rfl) :
    wpP W.M A (eval (.Call (.Name x np) args [] pos) env) Q E ⟨h, G, D, tk, O⟩ := by
  rw [arm_eval_Call_Name']
  refine bindP ((Ev.glob N g hx).go S fun _ h' tk' e S => ?_)
  subst e
  exact callWithP (P := fun h => W.K.In h) (fun h X => keeps_V hk h X) (ha.go S fun vs h tk p S => ⟨S.X, k vs h tk p S⟩) hp
theorem Ev.call {x : Str} {np pos : Pos} {fv : Value} {args : List Expr} {P : List Value → Prop} {T : Value → Prop} (N : EnvOK env a xs) (g : GV W x fv) (hk : keepV W.K fv = true) (ha : EvL W A env a xs ρ led args P)
    (k : ∀ {h vs G D tk O} {E Q : Value → Shared → Prop}, St W a xs ρ led h → P vs → (∀ v h' tk', T v → St W a xs ρ led h' → Q v ⟨h', G, D, tk', O⟩) → wpP W.M A (PySem.call fv vs) Q E ⟨h, G, D, tk, O⟩)
    (hx : (env.kindOf x == some .globalImplicit && !(x == ("__debug__" : Str))) = true := by kernel_rfl) (hp : (backTo pos (starEach args env)).any (·.1) = false := by rfl) :
    Ev W A env a xs ρ led (.Call (.Name x np) args [] pos) T := ⟨fun S q => CallE N S g hk ha (fun vs h tk p S => k S p q) hx hp⟩
/-- a method call: the object, the method looked up, the arguments, the call -/
theorem MethodP {o : Expr} {name : Str} {apos pos : Pos} {args : List Expr} {f self : Value} {Q : Value → Shared → Prop} (S : St W a xs ρ led h) (ho : Ev W A env a xs ρ led o (· = self))
    (hm : ∀ {h tk pl} {Q : Value × List Value → Shared → Prop}, St W a xs ρ led h → (∀ tk', Q (f, [self]) ⟨h, G, D, tk', O⟩) → wpP W.M A (getMethod self name pl) Q E ⟨h, G, D, tk, O⟩) (hk : keepV W.K f = true)
    (k : ∀ h tk, St W a xs ρ led h → wpP W.M A (spliced (backTo pos (starEach args env))) (fun vs s₁ => W.K.In s₁.heap ∧ wpP W.M A (PySem.call f (self :: vs)) Q E s₁) E ⟨h, G, D, tk, O⟩)
    (pl : Sem Bool)
    (he : eval (.Call (.Attribute o name apos) args [] pos) env = (do
      let ov ← eval o env
      standAt apos.atName
      let (f, first) ← holding [ov] (getMethod ov name pl)
      callWith pos f first (backTo pos (starEach args env)) (backToKw pos (keywordEach [] env))))
    (hp : (backTo pos (starEach args env)).any (·.1) = false := by rfl) : wpP W.M A (eval (.Call (.Attribute o name apos) args [] pos) env) Q E ⟨h, G, D, tk, O⟩ := by
  rw [he]
  refine bindP (ho.go S fun _ h' tk' e S => ?_)
  subst e
  refine bindP (atP (bindP (holdP (hm S fun tk' => ?_))))
  exact callWithP (P := fun h => W.K.In h) (fun h X => keeps_V hk h X) (k _ _ S) hp
end
end Mine

end
section
set_option maxRecDepth 100000
open PySem PySem.W PySem.Calls PyProof.Rows
open Sem (wp)
set_option Elab.async false
set_option linter.unusedVariables false
namespace Mine
open Builtin Builtin.Bytes

namespace BA
theorem type_append : typeOf (.builtin "bytearray.append") = pure (.type "method_descriptor") := by first | rfl | kernel_rfl
theorem type_extend : typeOf (.builtin "bytearray.extend") = pure (.type "method_descriptor") := by first | rfl | kernel_rfl
end BA

section
variable {W : Wd} {A : Around} {E : Value → Shared → Prop} {a : Act} {xs : List Str} {ρ : List (Option Value)} {led : List (Addr × Obj)} {h h' : Heap} {G : Array GenState} {D : Drawn} {tk : Nat} {O : OsState} {env : Env}

theorem method_ba {x : Addr} {l : List Nat} {name : Str} {id : String} {pl : Sem Bool} {Q : Value × List Value → Shared → Prop} (S : St W a xs ρ led h) (m : (x, baO (ba l)) ∈ led) (slot : Slot "bytearray" name id) (hty : typeOf (.builtin id) = pure (.type "method_descriptor"))
    (q : ∀ tk', Q (.builtin id, [.ref x]) ⟨h, G, D, tk', O⟩) : wpP W.M A (getMethod (.ref x) name pl) Q E ⟨h, G, D, tk, O⟩ :=
  up (getMethod_builtin ⟨_, S.get m, rfl⟩ BA.plainAttrs slot hty (fun a e => by cases e; exact ⟨_, S.get m, rfl⟩) (q _))
theorem method_lst {x : Addr} {vs : List Value} {n : Nat} {pl : Sem Bool} {Q : Value × List Value → Shared → Prop} (S : St W a xs ρ led h) (m : (x, lstO vs n) ∈ led)
    (q : ∀ tk', Q (.builtin "list.append", [.ref x]) ⟨h, G, D, tk', O⟩) : wpP W.M A (getMethod (.ref x) "append" pl) Q E ⟨h, G, D, tk, O⟩ :=
  up (getMethod_builtin ⟨_, S.get m, rfl⟩ PySem.F.plainAttrs_list slot_list_append (by first | rfl | kernel_rfl) (fun a e => by cases e; exact ⟨_, S.get m, rfl⟩) (q _))

theorem AppendBA {o e : Expr} {ap pos sp : Pos} {x : Addr} {l : List Nat} {i : Int} {Q : Flow → Shared → Prop} (S : St W a xs ρ led h) (ho : Ev W A env a xs ρ led o (· = .ref x)) (m : (x, baO (ba l)) ∈ led) (he : Ev W A env a xs ρ led e (IsI i)) (h0 : 0 ≤ i) (h1 : i < 256) (hz : l.length < 1000000)
    (q : ∀ h' tk', St W a xs ρ (updL x (baO (ba (l ++ [i.toNat]))) led) h' → Q .next ⟨h', G, D, tk', O⟩) (pl : Sem Bool)
    (hev : eval (.Call (.Attribute o "append" ap) [e] [] pos) env = (do
      let ov ← eval o env
      standAt ap.atName
      let (f, first) ← holding [ov] (getMethod ov "append" pl)
      callWith pos f first (backTo pos (starEach [e] env)) (backToKw pos (keywordEach [] env))))
    (hi : interactive env = false := by rfl) (hs : swapsWith (.Call (.Attribute o "append" ap) [e] [] pos) none sp.line env = pure false := by rfl) (hp : starEach [e] env = [(false, eval e env)] := by rfl) :
    wpP W.M A (exec (.Expr (.Call (.Attribute o "append" ap) [e] [] pos) sp) env) Q E ⟨h, G, D, tk, O⟩ := by
  refine ExprP (MethodP S ho (fun S q => method_ba S m BA.slot_append BA.type_append q) rfl (fun h tk S => ?_) pl hev (by rw [hp]; rfl)) hi hs
  refine spliced_consP (he.go S fun v h tk' ⟨t, hv⟩ S => spliced_nilP ⟨S.X, ?_⟩) hp
  subst hv
  exact append_ba S m h0 h1 hz fun h' S' => q h' _ S'
theorem AppendL {o e : Expr} {ap pos sp : Pos} {x : Addr} {vs : List Value} {n : Nat} {P : Value → Prop} {Q : Flow → Shared → Prop} (S : St W a xs ρ led h) (ho : Ev W A env a xs ρ led o (· = .ref x)) (m : (x, lstO vs n) ∈ led) (he : Ev W A env a xs ρ led e P) (hz : vs.length < 1000000)
    (q : ∀ v h' tk', P v → St W a xs ρ (updL x (lstO (vs ++ [v]) (n + 1)) led) h' → Q .next ⟨h', G, D, tk', O⟩) (pl : Sem Bool)
    (hev : eval (.Call (.Attribute o "append" ap) [e] [] pos) env = (do
      let ov ← eval o env
      standAt ap.atName
      let (f, first) ← holding [ov] (getMethod ov "append" pl)
      callWith pos f first (backTo pos (starEach [e] env)) (backToKw pos (keywordEach [] env))))
    (hi : interactive env = false := by rfl) (hs : swapsWith (.Call (.Attribute o "append" ap) [e] [] pos) none sp.line env = pure false := by rfl) (hp : starEach [e] env = [(false, eval e env)] := by rfl) :
    wpP W.M A (exec (.Expr (.Call (.Attribute o "append" ap) [e] [] pos) sp) env) Q E ⟨h, G, D, tk, O⟩ := by
  refine ExprP (MethodP S ho (fun S q => method_lst S m q) rfl (fun h tk S => ?_) pl hev (by rw [hp]; rfl)) hi hs
  refine spliced_consP (he.go S fun v h tk' pv S => spliced_nilP ⟨S.X, ?_⟩) hp
  refine up (append_at (S.get m) (fun h' hs e => q v h' _ pv (S.change m (fun b x n e => hs.extBut b x n e) ?_)) (by rw [List.size_toArray, sizeLine_eq]; omega))
  rw [e]; simp

theorem Ev.lenOct {e : Expr} {np pos : Pos} {l : List Nat} (N : EnvOK env a xs) (g : GV W "len" (.builtin "len")) (he : Ev W A env a xs ρ led e (Oct led · l)) (hz : l.length ≤ 1000000)
    (hx : (env.kindOf "len" == some .globalImplicit && !(("len" : Str) == ("__debug__" : Str))) = true := by kernel_rfl) (hp : starEach [e] env = [(false, eval e env)] := by rfl) : Ev W A env a xs ρ led (.Call (.Name "len" np) [e] [] pos) (IsI l.length) := by
  refine Ev.call N g rfl (EvL.cons he .nil hp) (fun S p q => ?_) hx (by rw [hp]; rfl)
  obtain ⟨v, r, rfl, o, rfl⟩ := p
  rcases o with ⟨t, rfl⟩ | ⟨x, rfl, m⟩
  · exact up (len_bytes (by rw [ba_size]; omega) (by rw [ba_size]; exact q _ _ _ ⟨_, rfl⟩ S))
  · exact up (len_ba S m hz fun t tk' => q _ _ _ ⟨_, rfl⟩ S)
theorem Ev.lenL {e : Expr} {np pos : Pos} {y : Addr} {vs : List Value} {n : Nat} (N : EnvOK env a xs) (g : GV W "len" (.builtin "len")) (he : Ev W A env a xs ρ led e (· = .ref y)) (m : (y, lstO vs n) ∈ led) (hz : vs.length ≤ 1000000)
    (hx : (env.kindOf "len" == some .globalImplicit && !(("len" : Str) == ("__debug__" : Str))) = true := by kernel_rfl) (hp : starEach [e] env = [(false, eval e env)] := by rfl) : Ev W A env a xs ρ led (.Call (.Name "len" np) [e] [] pos) (IsI vs.length) := by
  refine Ev.call N g rfl (EvL.cons he .nil hp) (fun S p q => ?_) hx (by rw [hp]; rfl)
  obtain ⟨v, r, rfl, rfl, rfl⟩ := p
  refine up (call_len_list ⟨_, S.get m, rfl, _, rfl⟩ (by rw [List.size_toArray]; omega) ?_)
  rw [List.size_toArray]
  exact q _ _ _ ⟨_, rfl⟩ S
theorem Ev.itemOct {o i : Expr} {pos : Pos} {l : List Nat} {k : Int} (ho : Ev W A env a xs ρ led o (Oct led · l)) (hi : Ev W A env a xs ρ led i (IsI k)) (hl : ∀ x ∈ l, x < 256) (hz : l.length ≤ 1000000) (h0 : 0 ≤ k) (h1 : k < l.length) :
    Ev W A env a xs ρ led (.Subscript o i pos) (IsI (l.getD k.toNat 0)) :=
  ⟨fun S q => SubscriptP (ho.go S fun v h' tk' p S => hi.go S fun w h'' tk'' ⟨t, hw⟩ S => by subst hw; exact item_oct S p hl hz h0 h1 fun t tk' => q _ _ _ ⟨_, rfl⟩ S)⟩
theorem item_list {y : Addr} {vs : List Value} {n : Nat} {i : Int} {u : Tok} {x : Value} {Q : Value → Shared → Prop} (S : St W a xs ρ led h) (m : (y, lstO vs n) ∈ led) (h0 : 0 ≤ i) (hx : vs[i.toNat]? = some x) (hz : vs.length ≤ 1000000) (q : Q x ⟨h, G, D, tk, O⟩) :
    (∃ T id, typeLookup (.type T) "__getitem__" = pure (some (.builtin id)) ∧ (⟨h, G, D, tk, O⟩ : Shared).TypeIs (.ref y) T) ∧ wpP W.M A (getItem (.ref y) (.int i u)) Q E ⟨h, G, D, tk, O⟩ := by
  have hL : h.IsList y vs.toArray := ⟨_, S.get m, rfl, _, rfl⟩
  obtain ⟨hlt, _⟩ := List.getElem?_eq_some_iff.mp hx
  exact ⟨⟨"list", _, slot_list_getitem.lookup, hL.typeIs⟩, up (wpAny_getItem_list hL h0 (by omega) (by simpa using hx) q)⟩
theorem Ev.itemL {o i : Expr} {pos : Pos} {y : Addr} {vs : List Value} {n : Nat} {k : Int} {x : Value} (ho : Ev W A env a xs ρ led o (· = .ref y)) (m : (y, lstO vs n) ∈ led) (hi : Ev W A env a xs ρ led i (IsI k)) (h0 : 0 ≤ k) (hx : vs[k.toNat]? = some x) (hz : vs.length ≤ 1000000) :
    Ev W A env a xs ρ led (.Subscript o i pos) (· = x) :=
  ⟨fun S q => SubscriptP (ho.go S fun v h' tk' p S => hi.go S fun w h'' tk'' ⟨t, hw⟩ S => by subst p; subst hw; exact item_list S m h0 hx hz (q _ _ _ rfl S))⟩
theorem item_tup {y : Addr} {vs : List Value} {i : Int} {u : Tok} {x : Value} {Q : Value → Shared → Prop} (S : St W a xs ρ led h) (m : (y, tupO vs) ∈ led) (h0 : 0 ≤ i) (hx : vs[i.toNat]? = some x) (hz : vs.length ≤ 1000000) (q : Q x ⟨h, G, D, tk, O⟩) :
    (∃ T id, typeLookup (.type T) "__getitem__" = pure (some (.builtin id)) ∧ (⟨h, G, D, tk, O⟩ : Shared).TypeIs (.ref y) T) ∧ wpP W.M A (getItem (.ref y) (.int i u)) Q E ⟨h, G, D, tk, O⟩ := by
  obtain ⟨hlt, _⟩ := List.getElem?_eq_some_iff.mp hx
  refine ⟨⟨"tuple", _, slot_tuple_getitem.lookup, ⟨_, S.get m, rfl⟩⟩, up (getItem_tuple (items := vs.toArray) ⟨_, S.get m, rfl, _, rfl⟩ (by omega) (by omega) (j := i.toNat) ?_ (by simpa using hx) q)⟩
  have hn : ¬ i < 0 := by omega
  simp [seqIndex?, hn]
  omega
theorem Ev.itemT {o i : Expr} {pos : Pos} {y : Addr} {vs : List Value} {k : Int} {x : Value} (ho : Ev W A env a xs ρ led o (· = .ref y)) (m : (y, tupO vs) ∈ led) (hi : Ev W A env a xs ρ led i (IsI k)) (h0 : 0 ≤ k) (hx : vs[k.toNat]? = some x) (hz : vs.length ≤ 1000000) :
    Ev W A env a xs ρ led (.Subscript o i pos) (· = x) :=
  ⟨fun S q => SubscriptP (ho.go S fun v h' tk' p S => hi.go S fun w h'' tk'' ⟨t, hw⟩ S => by subst p; subst hw; exact item_tup S m h0 hx hz (q _ _ _ rfl S))⟩
end
end Mine

end
section
set_option maxRecDepth 100000
open PySem PySem.W PySem.Calls PyProof.Rows
open Sem (wp)
set_option Elab.async false
set_option linter.unusedVariables false
namespace Mine
open Builtin Builtin.Bytes

def IsS (n : Nat) (v : Value) : Prop := ∃ x t, v = .str x t ∧ x.length ≤ n
structure EvSs (W : Wd) (A : Around) (env : Env) (a : Act) (xs : List Str) (ρ : List (Option Value)) (led : List (Addr × Obj)) (es : List Expr) : Prop where
  go : ∀ {E : Value → Shared → Prop} {Q : Value → Shared → Prop} {h : Heap} {G : Array GenState} {D : Drawn} {tk : Nat} {O : OsState} {acc : Str}, St W a xs ρ led h → acc.length + 2000 * es.length ≤ 16777216 →
    (∀ x t h' tk', St W a xs ρ led h' → Q (.str x t) ⟨h', G, D, tk', O⟩) → wpP W.M A (joinParts acc (evalEach es env)) Q E ⟨h, G, D, tk, O⟩

section
variable {W : Wd} {A : Around} {E : Value → Shared → Prop} {a : Act} {xs : List Str} {ρ : List (Option Value)} {led : List (Addr × Obj)} {h h' : Heap} {G : Array GenState} {D : Drawn} {tk : Nat} {O : OsState} {env : Env}

theorem EvSs.nil : EvSs W A env a xs ρ led [] := ⟨fun S hz q => up (wpAny_mkStr (q _ _ _ _ S) (by rw [sizeLine_eq]; simpa using hz))⟩
theorem EvSs.cons {e es} (he : Ev W A env a xs ρ led e (IsS 2000)) (hs : EvSs W A env a xs ρ led es) (ee : evalEach (e :: es) env = eval e env :: evalEach es env := by rfl) : EvSs W A env a xs ρ led (e :: es) := ⟨fun {E Q h G D tk O acc} S hz q => by
  rw [ee, joinParts]
  refine bindP (he.go S fun v h' tk' p S' => ?_)
  obtain ⟨y, t, rfl, hy⟩ := p
  simp only [List.length_cons] at hz
  have e1 : (acc ++ y).length = acc.length + y.length := PySem.strLen_append _ _
  have hz' : ¬ (acc.length + y.length > sizeLine) := by rw [sizeLine_eq]; omega
  refine bindP (pureP ?_)
  show wpP W.M A (if acc.length + y.length > sizeLine then _ else _) Q E _
  rw [if_neg hz']
  first
    | exact hs.go S' (by omega) q
    | exact bindP (pureP (hs.go S' (by omega) q))⟩
theorem Ev.fstr {e₁ e₂ es pos} (hs : EvSs W A env a xs ρ led (e₁ :: e₂ :: es)) (hz : 2000 * (e₁ :: e₂ :: es).length ≤ 1000000) : Ev W A env a xs ρ led (.JoinedStr (e₁ :: e₂ :: es) pos) (fun v => ∃ x t, v = .str x t) := ⟨fun S q => by
  rw [arm_eval_JoinedStr]
  exact hs.go (acc := Str.empty) S (by show 0 + _ ≤ _; omega) fun x t h' tk' S' => q _ _ _ ⟨x, t, rfl⟩ S'⟩
theorem Ev.fval {e pos} {i : Int} (he : Ev W A env a xs ρ led e (IsI i)) (hi : i.natAbs.log2 < 1920) : Ev W A env a xs ρ led (.FormattedValue e (-1) Option.none pos) (IsS 2000) := ⟨fun {E Q h G D tk O} S q => by
  show wpP W.M A (do let v ← eval e env; standAt pos; formatted pos (← holding [v] (converted (-1) v)) Option.none) Q E _
  refine bindP (he.go S fun v h' tk' ⟨t, hv⟩ S' => ?_)
  subst hv
  refine bindP (atP ?_)
  show wpP W.M A (do let v' ← holding [.int i t] (pure (.int i t)); formatField v' Str.empty) Q E _
  refine bindP (holdP (pureP (up (formatField_int_small hi (q _ _ _ ⟨_, _, rfl, ?_⟩ S')))))
  exact Nat.le_trans (int_text_len_1921 hi) (by omega)⟩
theorem Ev.strc {x : Str} {k : Nat} {pos : Pos} (hx : x.length ≤ 2000 := by decide +kernel) : Ev W A env a xs ρ led (.Constant (.str x) k pos) (IsS 2000) := ⟨fun S q => constS fun t tk' => q _ _ _ ⟨x, t, rfl, hx⟩ S⟩
theorem Ev.str {x : Str} {k : Nat} {pos : Pos} : Ev W A env a xs ρ led (.Constant (.str x) k pos) (fun v => ∃ x t, v = .str x t) := ⟨fun S q => constS fun t tk' => q _ _ _ ⟨x, t, rfl⟩ S⟩

/-! bytes: +, ==, !=; None; bool -/
theorem ba_toList_beq (l m : List Nat) (hl : ∀ x ∈ l, x < 256) (hm : ∀ x ∈ m, x < 256) : ((ba l).toList == (ba m).toList) = (l == m) := by
  have inj : ∀ l m : List Nat, (∀ x ∈ l, x < 256) → (∀ x ∈ m, x < 256) → l.map Nat.toUInt8 = m.map Nat.toUInt8 → l = m := by
    intro l
    induction l with
    | nil => intro m _ _ e; cases m with | nil => rfl | cons _ _ => cases e
    | cons x r ih =>
      intro m h1 h2 e
      cases m with
      | nil => cases e
      | cons y s =>
        simp only [List.map_cons, List.cons.injEq] at e
        have ex : x = y := by
          have := congrArg UInt8.toNat e.1
          have h3 : x < 256 := h1 x (.head _)
          have h4 : y < 256 := h2 y (.head _)
          have h5 : (Nat.toUInt8 x).toNat = x := Nat.mod_eq_of_lt h3
          have h6 : (Nat.toUInt8 y).toNat = y := Nat.mod_eq_of_lt h4
          omega
        rw [ex, ih s (fun z hz => h1 z (.tail _ hz)) (fun z hz => h2 z (.tail _ hz)) e.2]
  by_cases e : l = m
  · subst e; simp
  · have n : ¬ (ba l).toList = (ba m).toList := fun z => e (inj l m hl hm (by simpa [ba] using z))
    rw [beq_eq_false_iff_ne.mpr n, beq_eq_false_iff_ne.mpr e]
def IsB (l : List Nat) (v : Value) : Prop := ∃ t, v = .bytes (ba l) t
theorem IsB.oct {l v} (h : IsB l v) : Oct led v l := .inl h
theorem Ev.oct {e l} (h : Ev W A env a xs ρ led e (IsB l)) : Ev W A env a xs ρ led e (Oct led · l) := h.mono fun v p => p.oct
theorem Ev.addB {l r pos i j} (hl : Ev W A env a xs ρ led l (IsB i)) (hr : Ev W A env a xs ρ led r (IsB j)) (hz : i.length + j.length ≤ 1000000) : Ev W A env a xs ρ led (.BinOp l .Add r pos) (IsB (i ++ j)) :=
  Ev.bin hl hr fun _ _ _ _ _ ⟨_, hu⟩ ⟨_, hv⟩ q => by subst hu; subst hv; exact KBy.add_bytes (by rw [ba_size, ba_size]; omega) fun t' k => by rw [ba_append]; exact q _ _ ⟨_, rfl⟩
theorem EvB.neB {l r pos i j} (hl : Ev W A env a xs ρ led l (IsB i)) (hr : Ev W A env a xs ρ led r (IsB j)) (h1 : ∀ x ∈ i, x < 256) (h2 : ∀ x ∈ j, x < 256) : EvB W A env a xs ρ led (.Compare l [.NotEq] [r] pos) (i != j) :=
  cmpTest hl hr (fun _ _ _ _ _ ⟨_, hu⟩ ⟨_, hv⟩ q => by subst hu; subst hv; refine ne_bytes ?_; rw [bne, ba_toList_beq i j h1 h2]; exact q _) (bim rfl r)
theorem Ev.eqB {l r pos i j} (hl : Ev W A env a xs ρ led l (IsB i)) (hr : Ev W A env a xs ρ led r (IsB j)) (h1 : ∀ x ∈ i, x < 256) (h2 : ∀ x ∈ j, x < 256) : Ev W A env a xs ρ led (.Compare l [.Eq] [r] pos) (· = .bool (i == j)) :=
  cmpVal hl hr (fun _ _ _ _ _ ⟨_, hu⟩ ⟨_, hv⟩ q => by subst hu; subst hv; refine eq_bytes ?_; rw [ba_toList_beq i j h1 h2]; exact q _) (bim rfl r)
theorem EvB.neBool {l r pos b c} (hl : Ev W A env a xs ρ led l (· = .bool b)) (hr : Ev W A env a xs ρ led r (· = .bool c)) : EvB W A env a xs ρ led (.Compare l [.NotEq] [r] pos) (b != c) :=
  cmpTest hl hr (fun _ _ _ _ _ hu hv q => by subst hu; subst hv; exact ne_bool (q _)) (bim rfl r)
theorem Ev.eqBool {l r pos b c} (hl : Ev W A env a xs ρ led l (· = .bool b)) (hr : Ev W A env a xs ρ led r (· = .bool c)) : Ev W A env a xs ρ led (.Compare l [.Eq] [r] pos) (· = .bool (b == c)) :=
  cmpVal hl hr (fun _ _ _ _ _ hu hv q => by subst hu; subst hv; exact eq_bool (q _)) (bim rfl r)
end
end Mine

end
section
set_option maxRecDepth 100000
open PySem PySem.W PySem.Calls PyProof.Rows
open Sem (wp)
set_option Elab.async false
set_option linter.unusedVariables false
namespace Mine
open Builtin Builtin.Bytes

section
variable {W : Wd} {A : Around} {E : Value → Shared → Prop} {a : Act} {xs : List Str} {ρ : List (Option Value)} {led : List (Addr × Obj)} {h h' : Heap} {G : Array GenState} {D : Drawn} {tk : Nat} {O : OsState} {env : Env}

theorem preSum_getD' (ns : List Int) : ∀ j : Nat, preSum (fun i => ns.getD i 0) j = (ns.take j).sum
  | 0 => by simp [preSum]
  | j + 1 => by
    show preSum (fun i => ns.getD i 0) j + ns.getD j 0 = _
    rw [preSum_getD' ns j]
    by_cases hj : j < ns.length
    · rw [List.take_add_one, List.sum_append, List.getD_eq_getElem?_getD]
      simp [List.getElem?_eq_getElem hj]
    · rw [List.take_of_length_le (by omega), List.take_of_length_le (by omega), List.getD_eq_getElem?_getD, List.getElem?_eq_none (by omega)]
      simp
theorem intsAre_get {vs : List Value} {ns : List Int} (hi : IntsAre vs ns) : ∀ (i : Nat) (v : Value), vs[i]? = some v → ∃ t, v = .int (ns.getD i 0) t := by
  induction hi with
  | nil => intro i v e; simp at e
  | cons n t _ ih =>
    intro i v e
    cases i with
    | zero => simp at e; exact ⟨t, by simpa using e.symm⟩
    | succ i => simpa using ih i v (by simpa using e)
theorem sum_ints {y : Addr} {vs : List Value} {ns : List Int} {n : Nat} {Q : Value → Shared → Prop} (S : St W a xs ρ led h) (m : (y, lstO vs n) ∈ led) (hi : IntsAre vs ns) (hh : A.handled = none)
    (q : ∀ t h' tk', St W a xs ρ led h' → Q (.int ns.sum t) ⟨h', G, D, tk', O⟩) : wpAny W.M A (call (.builtin "sum") [.ref y]) Q E ⟨h, G, D, tk, O⟩ := by
  have hl : h.IsList y vs.toArray := ⟨_, S.get m, rfl, _, rfl⟩
  have hlt := Heap.lt_size (S.get m)
  have hne : y ≠ h.objs.size := Nat.ne_of_lt hlt
  refine call_sum_walkG (wpAny_pyIter_list hl ?_)
  refine ⟨h.objs.size, _, _, _, _, _, fun i => ns.getD i 0, rfl, Walks.list (prog := W.prog) (w := W.w) (A := A.in1) hh h.objs.size y hne vs.toArray, ⟨⟨_, Heap.get?_push_size _ rfl, rfl, rfl⟩, hl.push _⟩, fun b hb => ?_, fun i v hP => ?_, fun h' tk t' hk => ?_⟩
  · show b < (h.push _).objs.size
    rw [Heap.size_push]
    rcases List.mem_cons.mp hb with rfl | hb
    · exact Nat.lt_succ_self _
    · rw [List.mem_singleton.mp hb]; exact Nat.lt_succ_of_lt hlt
  · exact intsAre_get hi i v (by simpa using hP)
  · have e : preSum (fun i => ns.getD i 0) vs.toArray.size = ns.sum := by
      rw [preSum_getD', List.size_toArray, hi.length, List.take_of_length_le (Nat.le_refl _)]
    rw [e]
    exact q _ _ _ (S.grow fun b o e => hk b o (fun hb => by
      obtain rfl := List.mem_singleton.mp hb
      exact Nat.lt_irrefl _ (Heap.lt_size e)) (Heap.get?_push_of_some _ e))
theorem add_lst {y z : Addr} {vs ws : List Value} {n k : Nat} {Q : Value → Shared → Prop} (S : St W a xs ρ led h) (m : (y, lstO vs n) ∈ led) (m' : (z, lstO ws k) ∈ led) (hz : vs.length + ws.length ≤ 1000000)
    (q : ∀ x h' tk', St W a xs ρ ((x, lstO (vs ++ ws)) :: led) h' → Q (.ref x) ⟨h', G, D, tk', O⟩) : wpP W.M A (binaryOp .Add (.ref y) (.ref z)) Q E ⟨h, G, D, tk, O⟩ := by
  refine up (P.add_list (S.get m) (S.get m') ?_ (by rw [List.size_toArray, List.size_toArray, sizeLine_eq]; omega))
  have := q _ _ tk (S.push (lstO (vs ++ ws)))
  simpa using this
theorem fold_rep (v : Value) : ∀ (k : Nat) (acc : List Value), List.foldl (fun (x1 x2 : Array Value) => x1 ++ x2) acc.toArray (List.replicate k [v].toArray) = (acc ++ List.replicate k v).toArray
  | 0, acc => by simp
  | k + 1, acc => by
    rw [List.replicate_succ, List.foldl_cons]
    have e : acc.toArray ++ [v].toArray = (acc ++ [v]).toArray := by simp
    rw [e, fold_rep v k, List.append_assoc]
    rfl
theorem mul_lst {y : Addr} {v : Value} {n : Nat} {i : Int} {u : Tok} {Q : Value → Shared → Prop} (S : St W a xs ρ led h) (m : (y, lstO [v] n) ∈ led) (h0 : 0 ≤ i) (h1 : i ≤ 1000)
    (q : ∀ x h' tk', St W a xs ρ ((x, lstO (List.replicate i.toNat v)) :: led) h' → Q (.ref x) ⟨h', G, D, tk', O⟩) : wpP W.M A (binaryOp .Mult (.ref y) (.int i u)) Q E ⟨h, G, D, tk, O⟩ := by
  obtain ⟨mm, F, hm⟩ := S.vars
  obtain ⟨fn, e1, N1, e3, e4⟩ := S.frames
  refine up (mul_list (news := fn ++ led) F (fun p hp => ?_) (S.get m) (by omega) (by omega) ?_ fun h' F' N' => ?_)
  · rcases List.mem_append.mp hp with hp | hp
    · exact N1 p hp
    · exact S.news p hp
  · simp; omega
  · have e : List.foldl (fun (x1 x2 : Array Value) => x1 ++ x2) #[] (List.replicate (if [v].toArray.isEmpty = true then 0 else i.toNat) [v].toArray) = (List.replicate i.toNat v).toArray := by
      have := fold_rep v i.toNat []
      simpa using this
    rw [e] at N'
    refine q _ _ _ (S.again (ρ' := ρ) (fn := fn) F' hm (fun p hp => ?_) e3 (fun p hp => N' p (.tail _ (List.mem_append_left _ hp))) fun q hq p hp => ?_)
    · rcases List.mem_cons.mp hp with rfl | hp
      · exact N' _ (.head _)
      · exact N' p (.tail _ (List.mem_append_right _ hp))
    · rcases List.mem_cons.mp hp with rfl | hp
      · exact Nat.ne_of_gt (S.frame_lt hq)
      · exact S.apart q hq p hp

/-! None, instances -/
theorem EvB.isNone {l pos v} {k : Nat} {np : Pos} (hl : Ev W A env a xs ρ led l (· = v)) (hp : plainIs v .none = true) : EvB W A env a xs ρ led (.Compare l [.Is] [.Constant .none k np] pos) (v == .none) :=
  cmpTest hl Ev.none (fun _ _ _ _ _ hu hv q => by subst hu; subst hv; exact wpAny_is_plain hp (q _)) (bim rfl _)
theorem EvB.isNotNone {l pos v} {k : Nat} {np : Pos} (hl : Ev W A env a xs ρ led l (· = v)) (hp : plainIs v .none = true) : EvB W A env a xs ρ led (.Compare l [.IsNot] [.Constant .none k np] pos) (!(v == .none)) :=
  cmpTest hl Ev.none (fun _ _ _ _ _ hu hv q => by subst hu; subst hv; exact wpAny_isNot_plain hp (q _)) (bim rfl _)
theorem Ev.isNotNone {l pos v} {k : Nat} {np : Pos} (hl : Ev W A env a xs ρ led l (· = v)) (hp : plainIs v .none = true) : Ev W A env a xs ρ led (.Compare l [.IsNot] [.Constant .none k np] pos) (· = .bool (!(v == .none))) :=
  cmpVal hl Ev.none (fun _ _ _ _ _ hu hv q => by subst hu; subst hv; exact wpAny_isNot_plain hp (q _)) (bim rfl _)

/-- a value of the law: a number, a flag, octets -/
inductive DV
  | int (i : Int)
  | bool (b : Bool)
  | byt (l : List Nat)
def DV.Is (d : DV) (v : Value) : Prop := match d with
  | .int i => IsI i v
  | .bool b => v = .bool b
  | .byt l => IsB l v
def DV.isB : DV → Bool | .byt _ => true | _ => false
def DV.isF : DV → Bool | .bool _ => true | _ => false
theorem isi_bytes {d : DV} {v : Value} {s : Shared} {Q : Value → Shared → Prop} (hv : d.Is v) (q : ∀ tk', Q (.bool d.isB) { s with toks := tk' }) : wpAny W.M A (call (.builtin "isinstance") [v, .type "bytes"]) Q E s := by
  cases d with
  | int i => obtain ⟨t, rfl⟩ := hv; exact IsiPair.int_bytes (q _)
  | bool b => cases hv; exact IsiPair.bool_bytes (q _)
  | byt l =>
    obtain ⟨t, rfl⟩ := hv
    exact call_isinstance_yes (Tx := "bytes") (typeIs_bytes _ _ _) F.isi_meta_bytes F.sub_bytes_bytes (q _)
theorem isi_bool {d : DV} {v : Value} (hX : W.K.In h) {Q : Value → Shared → Prop} (hv : d.Is v) (q : ∀ tk', Q (.bool d.isF) ⟨h, G, D, tk', O⟩) : wpAny W.M A (call (.builtin "isinstance") [v, .type "bool"]) Q E ⟨h, G, D, tk, O⟩ := by
  cases d with
  | int i => obtain ⟨t, rfl⟩ := hv; exact IsiPair.int_bool (q _)
  | bool b => cases hv; exact IsiPair.bool_bool (q _)
  | byt l =>
    obtain ⟨t, rfl⟩ := hv
    exact kia_one kitx_bytes hX trivial (b := false) (by kernel_rfl) (by intro e; cases e) fun tk => q tk

theorem eqBool_dv {d : DV} {u v : Value} {s : Shared} (hu : d.Is u) (hv : d.Is v) (hb : ∀ l, d = .byt l → ∀ x ∈ l, x < 256) : SeqAt.EqAt A s u v true := by
  cases d with
  | int i =>
    obtain ⟨t, rfl⟩ := hu
    obtain ⟨t', rfl⟩ := hv
    have := (MeetsSeq.EqGives.int i i t t').at A s
    rwa [beq_self_eq_true] at this
  | bool b => cases hu; cases hv; exact SeqAt.EqAt.same _
  | byt l =>
    obtain ⟨t, rfl⟩ := hu
    obtain ⟨t', rfl⟩ := hv
    intro prog w E Q hq
    unfold eqBool
    refine wpAny_holding ?_
    refine wpAny_ite_split (fun _ => wpAny_bind (wpAny_rule (wpAny_pure hq))) (fun _ => ?_)
    refine wpAny_bind ?_
    refine eq_bytes ?_
    rw [ba_toList_beq l l (hb l rfl) (hb l rfl), beq_self_eq_true]
    exact wpAny_truthy_bool hq
theorem EvB.neV {d : DV} {l r pos} (hl : Ev W A env a xs ρ led l d.Is) (hr : Ev W A env a xs ρ led r d.Is) (hb : ∀ l, d = .byt l → ∀ x ∈ l, x < 256) : EvB W A env a xs ρ led (.Compare l [.NotEq] [r] pos) false := by
  refine cmpTest hl hr (fun u v Q E s hu hv q => ?_) (bim rfl r)
  cases d with
  | int i =>
    obtain ⟨t, rfl⟩ := hu
    obtain ⟨t', rfl⟩ := hv
    refine P.ne_int ?_
    rw [bne_self_eq_false]; exact q _
  | bool b => cases hu; cases hv; refine ne_bool ?_; rw [bne_self_eq_false]; exact q _
  | byt l =>
    obtain ⟨t, rfl⟩ := hu
    obtain ⟨t', rfl⟩ := hv
    refine ne_bytes ?_
    rw [bne, ba_toList_beq l l (hb l rfl) (hb l rfl), beq_self_eq_true]; exact q _
theorem ne_pair {y z : Addr} {u u' v v' : Value} {c d : DV} {Q : Value → Shared → Prop} (S : St W a xs ρ led h) (hu : A.units < cLine) (m : (y, tupO [u, v]) ∈ led) (m' : (z, tupO [u', v']) ∈ led) (h1 : c.Is u) (h2 : c.Is u') (h3 : d.Is v) (h4 : d.Is v')
    (hc : ∀ l, c = .byt l → ∀ x ∈ l, x < 256) (hd : ∀ l, d = .byt l → ∀ x ∈ l, x < 256) (q : Q (.bool false) ⟨h, G, D, tk, O⟩) : wpAny W.M A (compareOp .NotEq (.ref y) (.ref z)) Q E ⟨h, G, D, tk, O⟩ := by
  have R : SeqAt.RcNeAt A ⟨h, G, D, tk, O⟩ (.ref y) (.ref z) _ := SeqAt.RcNeAt.tuples (items := [u, v].toArray) (items2 := [u', v'].toArray) (e := fun _ => true) ⟨_, S.get m, rfl, _, rfl⟩ ⟨_, S.get m', rfl, _, rfl⟩ hu (fun j h1' h2' => by
    match j, h1' with
    | 0, _ => exact eqBool_dv h1 h2 hc
    | 1, _ => exact eqBool_dv h3 h4 hd)
  exact R _ _ _ _ q
end
end Mine

end
section
set_option maxRecDepth 100000
open PySem PySem.W PySem.Calls PyProof.Rows
open Sem (wp)
set_option Elab.async false
set_option linter.unusedVariables false
namespace Mine
open Builtin Builtin.Bytes

/-! expressions at the kit's own logic, the heap as it is: for what stands in a comprehension -/
structure EA (W : Wd) (A : Around) (env : Env) (h : Heap) (G : Array GenState) (D : Drawn) (O : OsState) (e : Expr) (P : Value → Prop) : Prop where
  go : ∀ {E : Value → Shared → Prop} {Q : Value → Shared → Prop} {tk : Nat}, (∀ v tk', P v → Q v ⟨h, G, D, tk', O⟩) → wpAny W.M A (eval e env) Q E ⟨h, G, D, tk, O⟩
section
variable {W : Wd} {A : Around} {env : Env} {h : Heap} {G : Array GenState} {D : Drawn} {O : OsState}
theorem EA.int {i : Int} {k : Nat} {pos : Pos} : EA W A env h G D O (.Constant (.int i) k pos) (IsI i) := ⟨fun q => fun _ _ _ => q _ _ ⟨_, rfl⟩⟩
theorem EA.bin {op l r pos P R} {T : Value → Prop} (hl : EA W A env h G D O l P) (hr : EA W A env h G D O r R)
    (k : ∀ (u v : Value) (Q E : Value → Shared → Prop) (s : Shared), P u → R v → (∀ w tk', T w → Q w { s with toks := tk' }) → wpAny W.M A (binaryOp op u v) Q E s) : EA W A env h G D O (.BinOp l op r pos) T := ⟨fun q => by
  rw [arm_eval_BinOp]
  exact wpAny_bind (hl.go fun u tk' p => wpAny_bind (wpAny_holding (hr.go fun v tk'' p' => wpAny_bind (wpAny_standAt (wpAny_operating (k u v _ _ _ p p' fun w tk' pw => q w tk' pw))))))⟩
theorem EA.add {l r pos i j} (hl : EA W A env h G D O l (IsI i)) (hr : EA W A env h G D O r (IsI j)) : EA W A env h G D O (.BinOp l .Add r pos) (IsI (i + j)) :=
  EA.bin hl hr fun _ _ _ _ _ ⟨_, hu⟩ ⟨_, hv⟩ q => by subst hu; subst hv; exact add_int (q _ _ ⟨_, rfl⟩)
theorem EA.sub {l r pos i j} (hl : EA W A env h G D O l (IsI i)) (hr : EA W A env h G D O r (IsI j)) : EA W A env h G D O (.BinOp l .Sub r pos) (IsI (i - j)) :=
  EA.bin hl hr fun _ _ _ _ _ ⟨_, hu⟩ ⟨_, hv⟩ q => by subst hu; subst hv; exact sub_int (q _ _ ⟨_, rfl⟩)
theorem EA.mul {l r pos i j} (hl : EA W A env h G D O l (IsI i)) (hr : EA W A env h G D O r (IsI j)) (ok : IntMulOk i j) : EA W A env h G D O (.BinOp l .Mult r pos) (IsI (i * j)) :=
  EA.bin hl hr fun _ _ _ _ _ ⟨_, hu⟩ ⟨_, hv⟩ q => by subst hu; subst hv; exact mul_int (q _ _ ⟨_, rfl⟩) ok
theorem EA.mod {l r pos i j} (hl : EA W A env h G D O l (IsI i)) (hr : EA W A env h G D O r (IsI j)) (ok : j ≠ 0) : EA W A env h G D O (.BinOp l .Mod r pos) (IsI (i.fmod j)) :=
  EA.bin hl hr fun _ _ _ _ _ ⟨_, hu⟩ ⟨_, hv⟩ q => by subst hu; subst hv; exact mod_int' ok (q _ _ ⟨_, rfl⟩)
theorem EA.div {l r pos i j} (hl : EA W A env h G D O l (IsI i)) (hr : EA W A env h G D O r (IsI j)) (ok : j ≠ 0) (sm : j.natAbs.log2 < 9000) : EA W A env h G D O (.BinOp l .FloorDiv r pos) (IsI (i.fdiv j)) :=
  EA.bin hl hr fun _ _ _ _ _ ⟨_, hu⟩ ⟨_, hv⟩ q => by subst hu; subst hv; exact floordiv_int ok (q _ _ ⟨_, rfl⟩) (Or.inl (PyProof.noPylong_of_log2 sm))
theorem EA.pow {l r pos i j} (hl : EA W A env h G D O l (IsI i)) (hr : EA W A env h G D O r (IsI j)) (h0 : 0 ≤ j) (h1 : j ≤ 1000000) (h2 : i.natAbs < 2 ^ 64) : EA W A env h G D O (.BinOp l .Pow r pos) (IsI (i ^ j.toNat)) :=
  EA.bin hl hr fun _ _ _ _ _ ⟨_, hu⟩ ⟨_, hv⟩ q => by subst hu; subst hv; exact pow_int_small h0 h1 h2 (q _ _ ⟨_, rfl⟩)
theorem EA.loc {x : Str} {pos : Pos} {v : Value} {m : Str → Option Value} (hk : env.scope.kind = .function) (hx : (env.kindOf x == some .local && !(x == ("__debug__" : Str))) = true) (hn : h.Ns env.locals m) (hv : m x = some v) : EA W A env h G D O (.Name x pos) (· = v) := ⟨fun q => by
  simp only [Bool.and_eq_true, beq_iff_eq, Bool.not_eq_true'] at hx
  exact wpAny_Name (wpAny_loadName_local hk hx.1 hn hv (q _ _ rfl)) hx.2⟩
theorem EA.cell {x : Str} {pos : Pos} {v : Value} {c : Addr} {o : Obj} (hk : env.scope.kind = .function) (hx : (env.kindOf x == some .cell && !(x == ("__debug__" : Str))) = true) (hc : env.cells.lookup x = some c) (ho : h.get? c = some o) (hd : o.data = .cell (some v)) : EA W A env h G D O (.Name x pos) (· = v) := ⟨fun q => by
  simp only [Bool.and_eq_true, beq_iff_eq, Bool.not_eq_true'] at hx
  exact wpAny_Name (wpAny_loadName_cell hk hx.1 hc ⟨o, ho, hd⟩ (q _ _ rfl)) hx.2⟩
theorem EA.mono {e P P'} (hl : EA W A env h G D O e P) (k : ∀ v, P v → P' v) : EA W A env h G D O e P' := ⟨fun q => hl.go fun v tk' p => q v tk' (k v p)⟩
theorem EA.itemB {o i pos} {l : List Nat} {k : Int} (ho : EA W A env h G D O o (IsB l)) (hi : EA W A env h G D O i (IsI k)) (hl : ∀ x ∈ l, x < 256) (hz : l.length ≤ 1000000) (h0 : 0 ≤ k) (h1 : k < l.length) : EA W A env h G D O (.Subscript o i pos) (IsI (l.getD k.toNat 0)) := ⟨fun {E Q tk} q => by
  have hi' : k.toNat < l.length := by omega
  obtain ⟨c, ec, en⟩ := ba_get l hl k.toNat hi'
  have hseq : seqIndex? k (ba l).size = some k.toNat := by
    rw [ba_size]
    have hn : ¬ k < 0 := by omega
    simp [seqIndex?, hn]
    exact ⟨h0, h1⟩
  have hb : (seqIndex? k (ba l).size).bind ((ba l)[·]?) = some c := by rw [hseq]; exact ec
  have hfit : fitsIndex k = true := by simp only [fitsIndex, Bool.and_eq_true, decide_eq_true_eq]; omega
  rw [eval_Subscript]
  refine wpAny_bind (ho.go fun v tk' ⟨t, hv⟩ => wpAny_bind (wpAny_holding (hi.go fun w tk'' ⟨u, hw⟩ => wpAny_bind (wpAny_standAt (wpAny_bind ?_)))))
  subst hv; subst hw
  rw [getitemInPython_of_ne (by intro e; cases e)]
  refine wpAny_bind (wpAny_specialOf (typeIs_bytes _ _ _) FB.slot_bytes_getitem.lookup ?_)
  obtain ⟨l', e⟩ := subscripted_op i (.bytes (ba l) t) (.int k u)
  have fin : wpAny W.M A (subscripted i false (.bytes (ba l) t) (.int k u)) (fun r s₃ => wpAny W.M A (letTemporaryGo o (.bytes (ba l) t) r >>= fun _ => pure r) Q E s₃) E ⟨h, G, D, tk'', O⟩ := by
    rw [e]
    refine wpAny_operating (getItem_gives (typeIs_bytes _ _ _) (by decide) FB.slot_bytes_getitem FB.entry_bytes_getitem (FB.args_bytes_getitem_2 _ _) (gives_bytes_getitem _ k t u c hfit hb) ?_)
    refine wpAny_bind (wpAny_letTemporaryGo (wpAny_pure ?_))
    exact q _ _ ⟨_, by rw [en]⟩
  exact wpAny_pure (wpAny_bind fin)⟩
end
end Mine

end
section
set_option maxRecDepth 100000
open PySem PySem.W PySem.Calls PyProof.Rows
open Sem (wp)
set_option Elab.async false
set_option linter.unusedVariables false
namespace Mine
open Builtin Builtin.Bytes

section
variable {W : Wd} {A : Around} {E : Value → Shared → Prop} {a : Act} {xs : List Str} {ρ : List (Option Value)} {led : List (Addr × Obj)} {h h' : Heap} {G : Array GenState} {D : Drawn} {tk : Nat} {O : OsState} {env : Env}

theorem St.add {d : Addr} {o : Obj} (S : St W a xs ρ led h) (e : h.get? d = some o) (hL : d ≠ a.L) (hg : a.g.get? d = none) (hf : ∀ q ∈ a.fs, d ≠ q.1) : St W a xs ρ ((d, o) :: led) h := by
  refine ⟨S.ok, S.vars, fun p hp => ?_, S.frms, fun q hq p hp => ?_⟩
  · rcases List.mem_cons.mp hp with rfl | hp
    · exact ⟨e, hL, hg⟩
    · exact S.news p hp
  · rcases List.mem_cons.mp hp with rfl | hp
    · exact hf q hq
    · exact S.apart q hq p hp
theorem St.out {d : Addr} (S : St W a xs ρ led h) (e : h.get? d = none) : d ≠ a.L ∧ a.g.get? d = none ∧ ∀ q ∈ a.fs, d ≠ q.1 := by
  obtain ⟨m, F, _⟩ := S.vars
  refine ⟨fun z => ?_, ?_, fun q hq z => ?_⟩
  · obtain ⟨o, _, _, ho, _⟩ := F.ns
    rw [← z, e] at ho; cases ho
  · cases q : a.g.get? d with
    | none => rfl
    | some o => rw [F.keep _ _ q] at e; cases e
  · obtain ⟨sl, ho⟩ := S.frms q hq
    rw [← z, e] at ho; cases ho
theorem St.made {d : Addr} {o : Obj} (S : St W a xs ρ led h) (k : ∀ b o, h.get? b = some o → h'.get? b = some o) (hd : h.get? d = none) (e : h'.get? d = some o) : St W a xs ρ ((d, o) :: led) h' :=
  let z := S.out hd
  (S.grow k).add e z.1 z.2.1 z.2.2

theorem NameGA {x : Str} {pos : Pos} {v : Value} {Q : Value → Shared → Prop} (S : St W a xs ρ led h) (N : EnvOK env a xs) (g : GV W x v) (hx : (env.kindOf x == some .globalImplicit && !(x == ("__debug__" : Str))) = true) (q : Q v ⟨h, G, D, tk, O⟩) :
    wpAny W.M A (eval (.Name x pos) env) Q E ⟨h, G, D, tk, O⟩ := by
  simp only [Bool.and_eq_true, beq_iff_eq, Bool.not_eq_true'] at hx
  obtain ⟨m, F, hm⟩ := S.vars
  obtain ⟨mg, mb, T⟩ := S.ok.T
  have T' := T.keeps F.keep
  refine Name_function_global N.kind hx.1 ?_ hx.2
  rcases g h mg mb S.X T' with e | ⟨e, e'⟩
  · exact loadGlobal_global (N.glob ▸ T'.g) e q
  · exact loadGlobal_builtin (N.glob ▸ T'.g) e (N.bui ▸ T'.b) e' q
theorem EA.locS {x : Str} {pos : Pos} {v : Value} {i : Nat} (S : St W a xs ρ led h) (N : EnvOK env a xs) (hx : At xs i x) (hv : ρ[i]? = some (some v)) : EA W A env h G D O (.Name x pos) (· = v) := ⟨fun q => by
  obtain ⟨m, F, hm⟩ := S.vars
  have k := N.names x hx.mem
  exact wpAny_Name (wpAny_loadName_local N.kind k.1 (N.loc ▸ F.ns) (hm i x v hx.get hv) (q _ _ rfl)) k.2⟩
theorem EA.isI {e v i t} (ha : EA W A env h G D O e (· = v)) (hv : v = .int i t) : EA W A env h G D O e (IsI i) := ha.mono fun _ e => ⟨t, e.trans hv⟩

/-- range(n), walked -/
theorem rangeA {re : Expr} {np cp : Pos} {n : Nat} {Q : Value → Shared → Prop} (N : EnvOK env a xs) (S : St W a xs ρ led h) (gr : GV W "range" (.type "range")) (hre : EA W A env h G D O re (IsI n)) (hn : n ≤ 1000000)
    (q : ∀ I h' tk', IsRangeIter h' I (0 + ((0 : Nat) : Int) * 1) ((n : Int) - (0 : Nat)) 1 → (∀ b o, h.get? b = some o → h'.get? b = some o) → h.get? I = none → Q (.ref I) ⟨h', G, D, tk', O⟩)
    (hx : (env.kindOf "range" == some .globalImplicit && !(("range" : Str) == ("__debug__" : Str))) = true := by kernel_rfl) (hp : starEach [re] env = [(false, eval re env)] := by rfl) :
    wpAny W.M A (eval (.Call (.Name "range" np) [re] [] cp) env) (fun xv s₁ => wpAny W.M A (pyIter xv) Q E s₁) E ⟨h, G, D, tk, O⟩ := by
  rw [arm_eval_Call_Name', hp]
  refine wpAny_bind (NameGA S N gr hx ?_)
  refine callWith_of (P := fun _ => True) rfl (fun h _ => ⟨.machine, .inr (.inl rfl), .now⟩) (evalArgs_plain (spliced_cons (hre.go fun v tk' ⟨t, hv⟩ => spliced_nil ⟨trivial, ?_⟩)))
  subst hv
  refine call_range_1 (wpAny_pyIter_range (IsRange.new _ _ _ _ _ _ _) (small_one (by decide) (by decide) (by omega) (by omega)) ?_)
  have hs : Builtin.Range.rangeSize 0 (n : Int) 1 = n := by
    rw [rangeSize_one]; split <;> omega
  rw [hs]
  refine q _ _ _ ?_ (fun b o e => Heap.get?_push_of_some _ (Heap.get?_push_of_some _ e)) ?_
  · have e0 : (0 : Int) + ((0 : Nat) : Int) * 1 = 0 := by simp
    have e1 : (n : Int) - ((0 : Nat) : Int) = n := by simp
    rw [e0, e1]
    exact Heap.get?_push_size _ rfl
  · cases z : h.get? (h.push { cls := .type "range", data := .fields #[.int 0 tk', .int n t, .int 1 (tk' + 1)] }).objs.size with
    | none => rfl
    | some o => exact absurd (Heap.lt_size z) (by rw [Heap.size_push]; exact Nat.not_lt.mpr (Nat.le_succ _))

theorem paired_ints {f : Int → Int} : ∀ {vs ys : List Value} (ns : List Int), IntsAre vs ns → Paired (fun v y => ∃ j t, v = .int j t ∧ j ∈ ns ∧ IsI (f j) y) vs ys → IntsAre ys (ns.map f) := by
  have key : ∀ {vs ys : List Value} (ns ms : List Int), IntsAre vs ns → Paired (fun v y => ∃ j t, v = .int j t ∧ j ∈ ms ∧ IsI (f j) y) vs ys → IntsAre ys (ns.map f) := by
    intro vs ys ns ms hi hp
    induction hp generalizing ns with
    | nil => cases hi; exact .nil
    | cons hf _ ih =>
      cases hi with
      | cons n t hi =>
        obtain ⟨j, t', e, _, u, hu⟩ := hf
        cases e
        subst hu
        exact .cons _ _ (ih _ hi)
  intro vs ys ns hi hp
  exact key ns ns hi hp
theorem intsAre_of {vs : List Value} {ns : List Int} (hl : vs.length = ns.length) (hg : ∀ (j : Nat) (v : Value), vs[j]? = some v → ∃ t, v = .int (ns.getD j 0) t) : IntsAre vs ns := by
  induction vs generalizing ns with
  | nil => cases ns with | nil => exact .nil | cons _ _ => cases hl
  | cons v r ih =>
    cases ns with
    | nil => cases hl
    | cons n ns =>
      obtain ⟨t, e⟩ := hg 0 v rfl
      simp at e; subst e
      refine .cons n t (ih (by simpa using hl) fun j v hv => ?_)
      simpa using hg (j + 1) v (by simpa using hv)
theorem filter_true {α : Type} (l : List α) : l.filter (fun _ => true) = l := List.filter_eq_self.mpr fun _ _ => rfl

/-- [elt for x in <ints>]: the walk of the source given -/
theorem CompInts {elt iter : Expr} {x : Str} {px pos : Pos} {scope : Scope} {cl : List (Str × Addr)} {f : Int → Int} {ns : List Int} {Q : Value → Shared → Prop} (N : EnvOK env a xs) (S : St W a xs ρ led h)
    (hit : ∀ {Q' : Value → Shared → Prop}, (∀ I fp h₂ tk₂ P Stt, Walks W.prog W.w A I fp [I] ns.length P Stt → Stt 0 h₂ → (∀ b ∈ fp, b < h₂.objs.size) → (∀ i v, i < ns.length → P i v → ∃ t, v = .int (ns.getD i 0) t) → (∀ i v, P i v → i < ns.length) → (∀ b o, h.get? b = some o → h₂.get? b = some o) → h.get? I = none → Q' (.ref I) ⟨h₂, G, D, tk₂, O⟩) →
      wpAny W.M A (eval iter env) (fun xv s₁ => wpAny W.M A (pyIter xv) Q' E s₁) E ⟨h, G, D, tk, O⟩) (hn : ns.length ≤ 1000000)
    (hclos : closureFor scope env = pure cl) (hkind : scope.kind = .function) (hnm : (scope.names.all fun y => y.2 != .cell && (y.2 != .local || scope.names.lookup y.1 == some .local)) = true) (hx : scope.names.lookup x = some .local)
    (helt : ∀ C j t h₃ m₃ G D O, h₃.Ns C m₃ → m₃ x = some (.int j t) → j ∈ ns → (∀ p ∈ led, h₃.get? p.1 = some p.2) → EA W A (compEnvC scope cl C env) h₃ G D O elt (IsI (f j)))
    (q : ∀ y vs k h' tk', St W a xs ρ ((y, lstO vs k) :: led) h' → IntsAre vs (ns.map f) → Q (.ref y) ⟨h', G, D, tk', O⟩)
    (hs : ∀ x, foldedSetIterable iter env x = pure x := by intro _; rfl) :
    wpP W.M A (eval (.ListComp elt [⟨.Name x px, iter, [], 0⟩] scope pos) env) Q E ⟨h, G, D, tk, O⟩ := by
  have nm : ∀ y ∈ scope.names, y.2 ≠ .cell ∧ (y.2 = .local → scope.names.lookup y.1 = some .local) := fun y hy => by
    have z := List.all_eq_true.mp hnm y hy
    simp only [Bool.and_eq_true, bne_iff_ne, Bool.or_eq_true, beq_iff_eq] at z
    exact ⟨z.1, fun e => z.2.resolve_left fun n => n e⟩
  refine up (wpAny_ListComp_free (fun _ => true) (fun v y => ∃ j t, v = .int j t ∧ j ∈ ns ∧ IsI (f j) y) hclos (fun y hy => (nm y hy).1) hkind (fun y hy => (nm y hy).2) hx (hit fun I fp h₂ tk₂ P Stt Wk hst hfp hP hPi hk hI => ?_) hs)
  refine ⟨I, fp, [I], ns.length, P, Stt, rfl, Wk, by rw [sizeLine_eq]; omega, hst, hfp, ⟨fun C i v s₃ m₃ E' _ _ _ _ _ _ => ?_, fun C i v s₃ m₃ E' hC hPv _ hns hmx hk₃ _ => ?_⟩, fun Dd h' tk' ys vs hD hl hpl hlen hPs hF hk' => ?_⟩
  · exact wpAny_pure ⟨rfl, _, _, rfl, fun _ _ e => e⟩
  · obtain ⟨h₃, g₃, d₃, t₃, o₃⟩ := s₃
    have hi := hPi i v hPv
    obtain ⟨t, rfl⟩ := hP i v hi hPv
    have hj : ns.getD i 0 ∈ ns := by
      rw [List.getD_eq_getElem?_getD, List.getElem?_eq_getElem hi]
      exact List.getElem_mem hi
    refine (helt C _ t h₃ m₃ g₃ d₃ o₃ hns hmx hj fun p hp => hk₃ _ _ (fun z => ?_) (hk _ _ (S.get hp))).go fun y tk' hy => ⟨⟨_, t, rfl, hj, hy⟩, h₃, tk', rfl, fun _ _ e => e⟩
    have := S.get hp
    rw [List.mem_singleton.mp z, hI] at this
    cases this
  · rw [filter_true] at hF
    obtain ⟨k, hpl⟩ := hpl
    have hi : IntsAre vs ns := intsAre_of hlen fun j v hv => by
      have hj : j < ns.length := hPi _ _ (hPs j v hv)
      exact hP j v hj (hPs j v hv)
    have hys := paired_ints ns hi hF
    have hkk : ∀ b o, h.get? b = some o → h'.get? b = some o := fun b o e => hk' b o (fun z => by
      rw [List.mem_singleton.mp z, hI] at e; cases e) (hk b o e)
    have hDn : h.get? Dd = none := by
      cases z : h.get? Dd with
      | none => rfl
      | some o => rw [hk _ _ z] at hD; cases hD
    exact q Dd ys.toList k h' tk' (S.made hkk hDn hpl) hys
end
end Mine

end
section
set_option maxRecDepth 100000
open PySem PySem.W PySem.Calls PyProof.Rows
open Sem (wp)
set_option Elab.async false
set_option linter.unusedVariables false
namespace Mine
open Builtin Builtin.Bytes

theorem walks_strong {prog : Program} {w : World} {A : Around} {I : Addr} {fp wr : List Addr} {n : Nat} {P : Nat → Value → Prop} {Stt : Nat → Heap → Prop} (Wk : Walks prog w A I fp wr n P Stt) : Walks prog w A I fp wr n (fun i v => i < n ∧ P i v) Stt where
  sub := Wk.sub
  frame := Wk.frame
  item := fun i s Q E hi st hQ => Wk.item i s Q E hi st fun v h' tk hv => hQ v h' tk ⟨hi, hv⟩
  done := Wk.done
  self := Wk.self
def upto (n : Nat) : List Int := (List.range n).map Int.ofNat
theorem upto_length (n : Nat) : (upto n).length = n := by simp [upto]
theorem upto_get (n i : Nat) (hi : i < n) : (upto n).getD i 0 = i := by simp [upto, List.getD_eq_getElem?_getD, hi]
theorem mem_upto {n : Nat} {j : Int} (h : j ∈ upto n) : ∃ k : Nat, j = k ∧ k < n := by
  obtain ⟨k, hk, rfl⟩ := List.mem_map.mp h
  exact ⟨k, rfl, List.mem_range.mp hk⟩

section
variable {W : Wd} {A : Around} {E : Value → Shared → Prop} {a : Act} {xs : List Str} {ρ : List (Option Value)} {led : List (Addr × Obj)} {h h' : Heap} {G : Array GenState} {D : Drawn} {tk : Nat} {O : OsState} {env : Env}

theorem CompRange {elt re : Expr} {x : Str} {px pos np cp : Pos} {scope : Scope} {cl : List (Str × Addr)} {f : Int → Int} {n : Nat} {Q : Value → Shared → Prop} (N : EnvOK env a xs) (S : St W a xs ρ led h) (hh : A.handled = none)
    (gr : GV W "range" (.type "range")) (hre : EA W A env h G D O re (IsI n)) (hn : n ≤ 1000000)
    (hclos : closureFor scope env = pure cl) (hkind : scope.kind = .function) (hnm : (scope.names.all fun y => y.2 != .cell && (y.2 != .local || scope.names.lookup y.1 == some .local)) = true) (hx : scope.names.lookup x = some .local)
    (helt : ∀ C (j : Nat) t h₃ m₃ G D O, h₃.Ns C m₃ → m₃ x = some (.int j t) → j < n → (∀ p ∈ led, h₃.get? p.1 = some p.2) → EA W A (compEnvC scope cl C env) h₃ G D O elt (IsI (f j)))
    (q : ∀ y vs k h' tk', St W a xs ρ ((y, lstO vs k) :: led) h' → IntsAre vs ((upto n).map f) → Q (.ref y) ⟨h', G, D, tk', O⟩)
    (hgx : (env.kindOf "range" == some .globalImplicit && !(("range" : Str) == ("__debug__" : Str))) = true := by kernel_rfl) (hp : starEach [re] env = [(false, eval re env)] := by rfl)
    (hs : ∀ x, foldedSetIterable (.Call (.Name "range" np) [re] [] cp) env x = pure x := by intro _; rfl) :
    wpP W.M A (eval (.ListComp elt [⟨.Name x px, .Call (.Name "range" np) [re] [] cp, [], 0⟩] scope pos) env) Q E ⟨h, G, D, tk, O⟩ := by
  refine CompInts (ns := upto n) (f := f) N S (fun k => ?_) (by rw [upto_length]; exact hn) hclos hkind hnm hx (fun C j t h₃ m₃ G D O hns hm hj hl => ?_) q hs
  · refine rangeA N S gr hre hn (fun I h₂ tk₂ hI hk hIn => ?_) hgx hp
    have Wk := walks_strong (Walks.range (prog := W.prog) (w := W.w) (A := A) hh I 0 1 n)
    refine k I [I] h₂ tk₂ (fun i v => i < n ∧ ∃ t, v = .int (0 + i * 1) t) (fun i h => IsRangeIter h I (0 + (i : Nat) * 1) ((n : Int) - (i : Nat)) 1) ?_ hI (fun b hb => by rw [List.mem_singleton.mp hb]; exact Heap.lt_size hI) (fun i v hi hP => ?_) (fun i v hP => by rw [upto_length]; exact hP.1) hk hIn
    · rw [upto_length]; exact Wk
    · obtain ⟨hi, t, rfl⟩ := hP
      refine ⟨t, ?_⟩
      rw [upto_get n i hi]
      simp
  · obtain ⟨k, rfl, hk⟩ := mem_upto hj
    exact helt C k t h₃ m₃ G D O hns hm hk hl
theorem sliceHit {value : Expr} {lo hi : Option Expr} {sp vp : Pos} {y : Addr} {vs : List Value} {ns : List Int} {l u : Option Int} {Q' : Value → Shared → Prop} (hh : A.handled = none)
    (hv : EA W A env h G D O value (· = .ref y)) (hL : h.IsList y vs.toArray) (hi' : IntsAre vs ns) (hz : ns.length ≤ 1000000)
    (hl : match lo with | none => l = none | some e => ∃ i, l = some i ∧ EA W A env h G D O e (IsI i)) (hu : match hi with | none => u = none | some e => ∃ i, u = some i ∧ EA W A env h G D O e (IsI i))
    (kk : ∀ I fp h₂ tk₂ P Stt, Walks W.prog W.w A I fp [I] (cut l u ns).length P Stt → Stt 0 h₂ → (∀ b ∈ fp, b < h₂.objs.size) → (∀ i v, i < (cut l u ns).length → P i v → ∃ t, v = .int ((cut l u ns).getD i 0) t) → (∀ i v, P i v → i < (cut l u ns).length) → (∀ b o, h.get? b = some o → h₂.get? b = some o) → h.get? I = none → Q' (.ref I) ⟨h₂, G, D, tk₂, O⟩)
    (ht : ∀ o r, letTemporaryGo value o r = pure ()) :
    wpAny W.M A (eval (.Subscript value (.Slice lo hi none sp) vp) env) (fun xv s₁ => wpAny W.M A (pyIter xv) Q' E s₁) E ⟨h, G, D, tk, O⟩ := by
  have cutIn : ∀ {vs : List Value} {ns : List Int}, IntsAre vs ns → IntsAre (cut l u vs) (cut l u ns) := by
    have dr : ∀ (n : Nat) {vs : List Value} {ns : List Int}, IntsAre vs ns → IntsAre (vs.drop n) (ns.drop n) := by
      intro n
      induction n with
      | zero => intro vs ns h; simpa using h
      | succ n ih => intro vs ns h; cases h with
        | nil => exact .nil
        | cons m t h => simpa using ih h
    have tk : ∀ (n : Nat) {vs : List Value} {ns : List Int}, IntsAre vs ns → IntsAre (vs.take n) (ns.take n) := by
      intro n
      induction n with
      | zero => intro vs ns h; simpa using IntsAre.nil
      | succ n ih => intro vs ns h; cases h with
        | nil => exact .nil
        | cons m t h => simpa using IntsAre.cons m t (ih h)
    intro vs ns h
    unfold cut
    rw [h.length]
    exact tk _ (dr _ h)
  refine wpAny_Subscript_list_slice (hv.go fun v tk₁ e => ?_) ht
  subst e
  have fin : ∀ lv uv tk₁, IsPart lv l → IsPart uv u → ∃ l_1 items lo hi, (Value.ref y) = .ref l_1 ∧ h.IsList l_1 items ∧ items.size ≤ sizeLine ∧ IsPart lv lo ∧ IsPart uv hi ∧
      wpAny W.M A (pyIter (.ref (h.objs.size + 1))) Q' E ⟨(h.push { cls := .type "slice", data := .fields #[lv, uv, .none] }).push { cls := .type "list", data := .seq (slicePick items lo hi none) }, G, D, tk₁, O⟩ := by
    intro lv uv tk₁ h1 h2
    refine ⟨y, vs.toArray, l, u, rfl, hL, by rw [List.size_toArray, hi'.length, sizeLine_eq]; omega, h1, h2, ?_⟩
    rw [slicePick_cut]
    have hsz : (h.push { cls := .type "slice", data := .fields #[lv, uv, .none] }).objs.size = h.objs.size + 1 := Heap.size_push _ _
    have hL2 : ((h.push { cls := .type "slice", data := .fields #[lv, uv, .none] }).push { cls := .type "list", data := .seq (cut l u vs).toArray }).get? (h.objs.size + 1) = some { cls := .type "list", data := .seq (cut l u vs).toArray } := by
      rw [← hsz]; exact Heap.get?_push_size _ rfl
    refine wpAny_pyIter_list (items := (cut l u vs).toArray) ⟨_, hL2, rfl, _, rfl⟩ ?_
    generalize hH : ((h.push { cls := .type "slice", data := .fields #[lv, uv, .none] }).push { cls := .type "list", data := .seq (cut l u vs).toArray }) = H at hL2 ⊢
    have hHs : H.objs.size = h.objs.size + 2 := by rw [← hH, Heap.size_push, hsz]
    have hc := cutIn hi'
    have Wk := walks_strong (Walks.list (prog := W.prog) (w := W.w) (A := A) hh H.objs.size (h.objs.size + 1) (by rw [hHs]; exact Nat.ne_of_lt (Nat.lt_succ_self _)) (cut l u vs).toArray)
    have hlen : (cut l u vs).toArray.size = (cut l u ns).length := by rw [List.size_toArray, hc.length]
    rw [hlen] at Wk
    refine kk H.objs.size _ _ tk₁ _ _ Wk ⟨⟨_, Heap.get?_push_size _ rfl, rfl, rfl⟩, ⟨_, Heap.get?_push_of_some _ hL2, rfl, _, rfl⟩⟩ (fun b hb => ?_) (fun i v hi hP => ?_) (fun i v hP => hP.1) (fun b o e => ?_) ?_
    · show b < (H.push _).objs.size
      rw [Heap.size_push]
      rcases List.mem_cons.mp hb with rfl | hb
      · exact Nat.lt_succ_self _
      · rw [List.mem_singleton.mp hb, hHs]; exact Nat.lt_succ_of_lt (Nat.lt_succ_self _)
    · exact intsAre_get hc i v (by simpa using hP.2)
    · refine Heap.get?_push_of_some _ ?_
      rw [← hH]
      exact Heap.get?_push_of_some _ (Heap.get?_push_of_some _ e)
    · cases z : h.get? H.objs.size with
      | none => rfl
      | some o => exact absurd (Heap.lt_size z) (by rw [hHs]; exact Nat.not_lt.mpr (Nat.le_add_right _ _))
  have fu : ∀ lv tk₁, IsPart lv l → wpAny W.M A (evalPart hi env) (fun vu s₃ => ∃ l_1 items lo hi, (Value.ref y) = .ref l_1 ∧ s₃.heap.IsList l_1 items ∧ items.size ≤ sizeLine ∧ IsPart lv lo ∧ IsPart vu hi ∧
      wpAny W.M A (pyIter (.ref (s₃.heap.objs.size + 1))) Q' E { s₃ with heap := (s₃.heap.push { cls := .type "slice", data := .fields #[lv, vu, .none] }).push { cls := .type "list", data := .seq (slicePick items lo hi none) } }) E ⟨h, G, D, tk₁, O⟩ := by
    intro lv tk₁ h1
    cases hi with
    | none => subst hu; exact wpAny_pure (fin lv .none tk₁ h1 .none)
    | some e =>
      obtain ⟨i, rfl, he⟩ := hu
      exact he.go fun v tk₂ ⟨t, hv⟩ => by subst hv; exact fin lv _ tk₂ h1 (.int _ _)
  cases lo with
  | none => subst hl; exact wpAny_pure (fu .none _ .none)
  | some e =>
    obtain ⟨i, rfl, he⟩ := hl
    exact he.go fun v tk₂ ⟨t, hv⟩ => by subst hv; exact fu _ _ (.int _ _)
theorem CompSliceH {elt value : Expr} {lo hi : Option Expr} {sp vp : Pos} {x : Str} {px pos : Pos} {scope : Scope} {cl : List (Str × Addr)} {f : Int → Int} {y : Addr} {vs : List Value} {ns : List Int} {l u : Option Int} {Q : Value → Shared → Prop} (N : EnvOK env a xs) (S : St W a xs ρ led h) (hh : A.handled = none)
    (hv : EA W A env h G D O value (· = .ref y)) (hL : h.IsList y vs.toArray) (hi' : IntsAre vs ns) (hz : ns.length ≤ 1000000)
    (hl : match lo with | none => l = none | some e => ∃ i, l = some i ∧ EA W A env h G D O e (IsI i)) (hu : match hi with | none => u = none | some e => ∃ i, u = some i ∧ EA W A env h G D O e (IsI i))
    (hclos : closureFor scope env = pure cl) (hkind : scope.kind = .function) (hnm : (scope.names.all fun y => y.2 != .cell && (y.2 != .local || scope.names.lookup y.1 == some .local)) = true) (hx : scope.names.lookup x = some .local)
    (helt : ∀ C j t h₃ m₃ G D O, h₃.Ns C m₃ → m₃ x = some (.int j t) → j ∈ ns → (∀ p ∈ led, h₃.get? p.1 = some p.2) → EA W A (compEnvC scope cl C env) h₃ G D O elt (IsI (f j)))
    (q : ∀ y vs k h' tk', St W a xs ρ ((y, lstO vs k) :: led) h' → IntsAre vs ((cut l u ns).map f) → Q (.ref y) ⟨h', G, D, tk', O⟩)
    (ht : ∀ o r, letTemporaryGo value o r = pure () := by intro _ _; rfl)
    (hs : ∀ x, foldedSetIterable (.Subscript value (.Slice lo hi none sp) vp) env x = pure x := by intro _; rfl) :
    wpP W.M A (eval (.ListComp elt [⟨.Name x px, .Subscript value (.Slice lo hi none sp) vp, [], 0⟩] scope pos) env) Q E ⟨h, G, D, tk, O⟩ :=
  CompInts (ns := cut l u ns) (f := f) N S (fun kk => sliceHit hh hv hL hi' hz hl hu kk ht) (Nat.le_trans (cut_length l u ns) hz) hclos hkind hnm hx (fun C j t h₃ m₃ G D O hns hm hj hl => helt C j t h₃ m₃ G D O hns hm (List.mem_of_mem_drop (List.mem_of_mem_take hj)) hl) q hs
theorem CompSlice {elt value : Expr} {lo hi : Option Expr} {sp vp : Pos} {x : Str} {px pos : Pos} {scope : Scope} {cl : List (Str × Addr)} {f : Int → Int} {y : Addr} {vs : List Value} {k : Nat} {ns : List Int} {l u : Option Int} {Q : Value → Shared → Prop} (N : EnvOK env a xs) (S : St W a xs ρ led h) (hh : A.handled = none)
    (hv : EA W A env h G D O value (· = .ref y)) (my : (y, lstO vs k) ∈ led) (hi' : IntsAre vs ns) (hz : ns.length ≤ 1000000)
    (hl : match lo with | none => l = none | some e => ∃ i, l = some i ∧ EA W A env h G D O e (IsI i)) (hu : match hi with | none => u = none | some e => ∃ i, u = some i ∧ EA W A env h G D O e (IsI i))
    (hclos : closureFor scope env = pure cl) (hkind : scope.kind = .function) (hnm : (scope.names.all fun y => y.2 != .cell && (y.2 != .local || scope.names.lookup y.1 == some .local)) = true) (hx : scope.names.lookup x = some .local)
    (helt : ∀ C j t h₃ m₃ G D O, h₃.Ns C m₃ → m₃ x = some (.int j t) → j ∈ ns → (∀ p ∈ led, h₃.get? p.1 = some p.2) → EA W A (compEnvC scope cl C env) h₃ G D O elt (IsI (f j)))
    (q : ∀ y vs k h' tk', St W a xs ρ ((y, lstO vs k) :: led) h' → IntsAre vs ((cut l u ns).map f) → Q (.ref y) ⟨h', G, D, tk', O⟩)
    (ht : ∀ o r, letTemporaryGo value o r = pure () := by intro _ _; rfl)
    (hs : ∀ x, foldedSetIterable (.Subscript value (.Slice lo hi none sp) vp) env x = pure x := by intro _; rfl) :
    wpP W.M A (eval (.ListComp elt [⟨.Name x px, .Subscript value (.Slice lo hi none sp) vp, [], 0⟩] scope pos) env) Q E ⟨h, G, D, tk, O⟩ :=
  CompSliceH N S hh hv ⟨_, S.get my, rfl, _, rfl⟩ hi' hz hl hu hclos hkind hnm hx helt q ht hs
end
end Mine

end
section
set_option maxRecDepth 100000
open PySem PySem.W PySem.Calls PyProof.Rows
open Sem (wp)
set_option Elab.async false
set_option linter.unusedVariables false
namespace Mine
open Builtin Builtin.Bytes

section
variable {W : Wd} {A : Around} {E : Value → Shared → Prop} {a : Act} {xs : List Str} {ρ : List (Option Value)} {led : List (Addr × Obj)} {h h' : Heap} {G : Array GenState} {D : Drawn} {tk : Nat} {O : OsState} {env : Env}
theorem ns_unique {h : Heap} {L : Addr} {m m' : Str → Option Value} (h1 : h.Ns L m) (h2 : h.Ns L m') : m = m' := by
  obtain ⟨o, es, ep, ho, hd, _, hf⟩ := h1
  obtain ⟨o', es', ep', ho', hd', _, hf'⟩ := h2
  rw [ho] at ho'; cases ho'; rw [hd] at hd'; cases hd'
  funext y; rw [← hf y, ← hf' y]
/-- a name stored, new objects beside -/
theorem St.store' {i : Nat} {x : Str} {v : Value} {m : Str → Option Value} (S : St W a xs ρ led h) (hx : At xs i x) (hm : h.Ns a.L m) (hn : h'.Ns a.L (fun y => if y = x then some v else m y)) (k : ∀ b o, b ≠ a.L → h.get? b = some o → h'.get? b = some o) :
    St W a xs (ρ.set i (some v)) led h' := by
  obtain ⟨m₀, F, hm₀⟩ := S.vars
  obtain rfl := ns_unique F.ns hm
  refine ⟨S.ok, ⟨_, ⟨hn, fun b o q => k b o (Nat.ne_of_lt (Nat.lt_of_lt_of_le (Heap.lt_size q) F.above)) (F.keep b o q), F.above⟩, fun j y u h1 h2 => ?_⟩, fun p hp => ⟨k _ _ (S.news p hp).2.1 (S.news p hp).1, (S.news p hp).2⟩, fun q hq => ?_, S.apart⟩
  · by_cases e : y = x
    · subst e
      have : i = j := by
        have nd := S.ok.nd
        have h3 := hx.get
        obtain ⟨hi, e1⟩ := List.getElem?_eq_some_iff.mp h3
        obtain ⟨hj, e2⟩ := List.getElem?_eq_some_iff.mp h1
        exact (List.getElem_inj nd).mp (e1.trans e2.symm)
      subst this
      rw [if_pos rfl]
      have hlt : i < ρ.length := by
        rcases Nat.lt_or_ge i ρ.length with z | z
        · exact z
        · rw [List.set_eq_of_length_le z, List.getElem?_eq_none z] at h2; cases h2
      rw [List.getElem?_set_self hlt] at h2
      exact Option.some.inj h2
    · rw [if_neg e]
      have n : i ≠ j := fun z => by subst z; exact e (Option.some.inj (h1.symm.trans hx.get))
      rw [List.getElem?_set_ne n] at h2
      exact hm₀ j y u h1 h2
  · obtain ⟨sl, e⟩ := S.frms q hq
    exact ⟨sl, k _ _ (S.ok.new q hq).2 e⟩
/-- x = [elt for x in <ints>] -/
theorem SetCompInts {elt iter : Expr} {x y0 : Str} {px py pos spos : Pos} {i0 : Nat} {scope : Scope} {cl : List (Str × Addr)} {f : Int → Int} {ns : List Int} {Q : Flow → Shared → Prop} (N : EnvOK env a xs) (S : St W a xs ρ led h) (hy : At xs i0 y0)
    (hit : ∀ {Q' : Value → Shared → Prop}, (∀ I fp h₂ tk₂ P Stt, Walks W.prog W.w A I fp [I] ns.length P Stt → Stt 0 h₂ → (∀ b ∈ fp, b < h₂.objs.size) → (∀ i v, i < ns.length → P i v → ∃ t, v = .int (ns.getD i 0) t) → (∀ i v, P i v → i < ns.length) → (∀ b o, h.get? b = some o → h₂.get? b = some o) → h.get? I = none → Q' (.ref I) ⟨h₂, G, D, tk₂, O⟩) →
      wpAny W.M A (eval iter env) (fun xv s₁ => wpAny W.M A (pyIter xv) Q' E s₁) E ⟨h, G, D, tk, O⟩) (hn : ns.length ≤ 1000000)
    (hclos : closureFor scope env = pure cl) (hkind : scope.kind = .function) (hnm : (scope.names.all fun y => y.2 != .cell && (y.2 != .local || scope.names.lookup y.1 == some .local)) = true) (hx : scope.names.lookup x = some .local)
    (hsw : swapsWith (.ListComp elt [⟨.Name x px, iter, [], 0⟩] scope pos) (some (.Name y0 py)) spos.line env = pure true)
    (helt : ∀ C j t h₃ m₃ G D O, h₃.Ns C m₃ → m₃ x = some (.int j t) → j ∈ ns → (∀ p ∈ led, h₃.get? p.1 = some p.2) → EA W A (compEnvC scope cl C env) h₃ G D O elt (IsI (f j)))
    (q : ∀ y vs k h' tk', St W a xs (ρ.set i0 (some (.ref y))) ((y, lstO vs k) :: led) h' → IntsAre vs (ns.map f) → Q .next ⟨h', G, D, tk', O⟩)
    (hs : ∀ x, foldedSetIterable iter env x = pure x := by intro _; rfl) :
    wpP W.M A (exec (.Assign [.Name y0 py] (.ListComp elt [⟨.Name x px, iter, [], 0⟩] scope pos) spos) env) Q E ⟨h, G, D, tk, O⟩ := by
  have nm : ∀ y ∈ scope.names, y.2 ≠ .cell ∧ (y.2 = .local → scope.names.lookup y.1 = some .local) := fun y hy => by
    have z := List.all_eq_true.mp hnm y hy
    simp only [Bool.and_eq_true, bne_iff_ne, Bool.or_eq_true, beq_iff_eq] at z
    exact ⟨z.1, fun e => z.2.resolve_left fun n => n e⟩
  obtain ⟨m, F, hm⟩ := S.vars
  have hp : (env.scope.kind == .class || (env.scope.kind == .module && env.locals != env.globals)) = false := by rw [N.kind]; rfl
  refine up (wpAny_Assign_ListComp_free (fun _ => true) (fun v y => ∃ j t, v = .int j t ∧ j ∈ ns ∧ IsI (f j) y) hsw hclos (fun y hy => (nm y hy).1) hkind (fun y hy => (nm y hy).2) hx (N.names y0 hy.mem).1 hp (hit fun I fp h₂ tk₂ P Stt Wk hst hfp hP hPi hk hI => ?_) hs)
  have hL2 : h₂.Ns a.L m := by obtain ⟨oL, es, ep, ho, r⟩ := F.ns; exact ⟨oL, es, ep, hk _ _ ho, r⟩
  have hLI : a.L ≠ I := fun e => by obtain ⟨oL, es, ep, ho, r⟩ := F.ns; rw [e, hI] at ho; cases ho
  refine ⟨I, fp, [I], ns.length, P, Stt, m, rfl, Wk, by rw [sizeLine_eq]; omega, hst, hfp, by rw [N.loc]; simpa using hLI, by rw [N.loc]; exact hL2, ⟨fun C i v s₃ m₃ E' _ _ _ _ _ _ => ?_, fun C i v s₃ m₃ E' hC hPv _ hns hmx hk₃ _ => ?_⟩, fun Dd h' tk' ys vs hD hl hpl hlen hPs hF hns' hk' => ?_⟩
  · exact wpAny_pure ⟨rfl, _, _, rfl, fun _ _ e => e⟩
  · obtain ⟨h₃, g₃, d₃, t₃, o₃⟩ := s₃
    have hi := hPi i v hPv
    obtain ⟨t, rfl⟩ := hP i v hi hPv
    have hj : ns.getD i 0 ∈ ns := by
      rw [List.getD_eq_getElem?_getD, List.getElem?_eq_getElem hi]
      exact List.getElem_mem hi
    refine (helt C _ t h₃ m₃ g₃ d₃ o₃ hns hmx hj fun p hp => hk₃ _ _ (fun z => ?_) (hk _ _ (S.get hp))).go fun y tk' hy => ⟨⟨_, t, rfl, hj, hy⟩, h₃, tk', rfl, fun _ _ e => e⟩
    have := S.get hp
    rw [List.mem_singleton.mp z, hI] at this
    cases this
  · rw [filter_true] at hF
    obtain ⟨k, hpl⟩ := hpl
    have hi : IntsAre vs ns := intsAre_of hlen fun j v hv => by
      have hj : j < ns.length := hPi _ _ (hPs j v hv)
      exact hP j v hj (hPs j v hv)
    have hys := paired_ints ns hi hF
    rw [N.loc] at hns' hk'
    have hkk : ∀ b o, b ≠ a.L → h.get? b = some o → h'.get? b = some o := fun b o n e => hk' b o n (fun z => by
      rw [List.mem_singleton.mp z, hI] at e; cases e) (hk b o e)
    have hDn : h.get? Dd = none := by
      cases z : h.get? Dd with
      | none => rfl
      | some o => rw [hk _ _ z] at hD; cases hD
    have z := S.out hDn
    have S' := S.store' (v := .ref Dd) hy F.ns hns' hkk
    exact q Dd ys.toList k h' tk' (S'.add hpl z.1 z.2.1 z.2.2) hys
end
end Mine

end
section
set_option maxRecDepth 100000
open PySem PySem.W PySem.Calls PyProof.Rows
open Sem (wp)
set_option Elab.async false
set_option linter.unusedVariables false
namespace Mine
open Builtin Builtin.Bytes

section
variable {W : Wd} {A : Around} {E : Value → Shared → Prop} {a : Act} {xs : List Str} {ρ : List (Option Value)} {led : List (Addr × Obj)} {h h' : Heap} {G : Array GenState} {D : Drawn} {tk : Nat} {O : OsState} {env : Env}

/-! targets -/
theorem targetP {x : Str} {pos : Pos} {v : Value} {i : Nat} {Q : Unit → Shared → Prop} (N : EnvOK env a xs) (S : St W a xs ρ led h) (hx : At xs i x) (q : ∀ h' tk', St W a xs (ρ.set i (some v)) led h' → Q () ⟨h', G, D, tk', O⟩) :
    wpP W.M A (assign (.Name x pos) env v) Q E ⟨h, G, D, tk, O⟩ := by
  rw [PySem.assign_Name]
  refine bindP (atP ?_)
  unfold bindName
  exact bindP (holdP (pointP (bindP (storeL S hx N.loc N.kind N.names fun h' tk' S' => pointP (q h' tk' S')))))
theorem inOrder_nilP {xs : List Value} {Q : Unit → Shared → Prop} {s : Shared} (q : Q () s) : wpP W.M A (assignInOrder [] xs) Q E s := pureP q
theorem inOrder_consP {t : Value → Sem Unit} {ts : List (Value → Sem Unit)} {x : Value} {xs : List Value} {Q : Unit → Shared → Prop} {s : Shared}
    (k : wpP W.M A (t x) (fun _ s₁ => wpP W.M A (assignInOrder ts xs) Q E s₁) E s) : wpP W.M A (assignInOrder (t :: ts) (x :: xs)) Q E s := by
  show wpP W.M A (do holding xs (t x); assignInOrder ts xs) Q E s
  exact bindP (holdP k)
theorem tupleP {elts : List Expr} {k : Nat} {pos : Pos} {t : Addr} {vs : List Value} {Q : Unit → Shared → Prop} (S : St W a xs ρ led h) (hh : A.handled = none) (m : (t, tupO vs) ∈ led)
    (hn : (assignEach elts env).length = vs.length) (hstar : (assignEach elts env).findIdx? (·.1) = none)
    (q : ∀ h', St W a xs ρ led h' → wpP W.M A (assignInOrder ((assignEach elts env).map (·.2)) vs) Q E ⟨h', G, D, tk, O⟩) : wpP W.M A (assign (.Tuple elts k pos) env (.ref t)) Q E ⟨h, G, D, tk, O⟩ := by
  rw [arm_assign_Tuple]
  refine bindP (atP ?_)
  unfold unpack
  rw [hn, hstar]
  have hsz : vs.length = vs.toArray.size := by simp
  rw [hsz]
  refine bindP (holdP (up (unpackItems_tuple hh ⟨_, S.get m, rfl, _, rfl⟩ fun h' hk => ?_)))
  exact q h' (S.grow fun b o e => hk b o (fun z => Nat.lt_irrefl _ (z ▸ Heap.lt_size e)) e)
theorem SetTupleP {elts : List Expr} {k : Nat} {tpos pos : Pos} {value : Expr} {Q : Flow → Shared → Prop} {s : Shared}
    (kk : wpP W.M A (eval value env) (fun v s₁ => wpP W.M A (assign (.Tuple elts k tpos) env v) (fun _ => Q .next) E s₁) E s)
    (hs : swapsWithSole [.Tuple elts k tpos] value pos.line env = pure false := by rfl) (hw : swappedStores [.Tuple elts k tpos] value env = pure none := by rfl) :
    wpP W.M A (exec (.Assign [.Tuple elts k tpos] value pos) env) Q E s := by
  rw [exec_Assign]
  refine bindP (atP ?_)
  rw [hs]
  refine bindP (pureP ?_)
  rw [if_neg (by decide)]
  refine bindP (monoP kk (fun v s₁ h₁ => ?_) fun _ _ x => x)
  rw [hw]
  refine bindP (pureP ?_)
  show wpP W.M A (do assignAll v [assign (.Tuple elts k tpos) env]; pure .next) Q E s₁
  exact bindP (monoP h₁ (fun _ _ x => pureP x) fun _ _ x => x)

/-! for x in range(n): -/
theorem ForRange {re : Expr} {x : Str} {px np cp pos : Pos} {body : List Stmt} {n : Nat} {i₀ : Nat} {Q : Flow → Shared → Prop} (N : EnvOK env a xs) (S : St W a xs ρ led h) (hh : A.handled = none) (gr : GV W "range" (.type "range")) (hx : At xs i₀ x)
    (hre : EA W A env h G D O re (IsI n)) (hn : n ≤ 1000000)
    (inv : Addr → Nat → List (Option Value) → List (Addr × Obj) → Prop) (hst : ∀ I i ρ led led', inv I i ρ led → (∀ x o, (x, o) ∈ led → x ≠ I → (x, o) ∈ led') → inv I i ρ led') (h0 : ∀ I h, St W a xs ρ led h → (∀ p ∈ led, p.1 ≠ I) → inv I 0 ρ led)
    (turn : ∀ i I oI t ρ led h tk, i < n → inv I i ρ led → (I, oI) ∈ led → oI.cls = .type "range_iterator" → St W a xs (ρ.set i₀ (some (.int (i : Int) t))) led h → wpP W.M A (execs body env) (fun f s₂ => match f with
          | .next => ∃ ρ' led' h' tk', s₂ = ⟨h', G, D, tk', O⟩ ∧ St W a xs ρ' led' h' ∧ inv I (i + 1) ρ' led' ∧ ∀ o, (I, o) ∈ led → (I, o) ∈ led'
          | .ret v => Q (.ret v) s₂
          | _ => False) (NoteE W A env (fun r s' => match r with | .ok f => Q f s' | .error x => CameE W A env E x s')) ⟨h, G, D, tk, O⟩)
    (fin : ∀ I ρ led h tk, inv I n ρ led → St W a xs ρ led h → Q .next ⟨h, G, D, tk, O⟩)
    (hgx : (env.kindOf "range" == some .globalImplicit && !(("range" : Str) == ("__debug__" : Str))) = true := by kernel_rfl) (hp : starEach [re] env = [(false, eval re env)] := by rfl)
    (hs : ∀ x, foldedSetIterable (.Call (.Name "range" np) [re] [] cp) env x = pure x := by intro _; rfl) :
    wpP W.M A (exec (.For (.Name x px) (.Call (.Name "range" np) [re] [] cp) body [] pos) env) Q E ⟨h, G, D, tk, O⟩ := by
  refine ForP ?_ hs
  refine monoP (up (rangeA (Q := fun it s₂ => codeP W.M A (.forLoop (.Name x px) it body [] env) (fun r s' => match r with | .ok f => Q f s' | .error x => CameE W A env E x s') s₂) N S gr hre hn (fun I h₂ tk₂ hI hk hIn => ?_) hgx hp)) (fun xv s₁ z => up z) fun _ _ z => z
  have S₂ := S.made hk hIn hI
  refine forLoopP (n := n) (P := fun i v => i < n ∧ ∃ t, v = .int (0 + i * 1) t) (Stt := fun i h => IsRangeIter h I (0 + (i : Nat) * 1) ((n : Int) - (i : Nat)) 1) (walks_strong (Walks.range (prog := W.prog) (w := W.w) (A := A) hh I 0 1 n)) (.type "range_iterator") (fun i h e => ⟨_, e, rfl⟩) (fun i v s Q E _ q => ?_) (inv I) (hst I) (fun i v ρ led h tk hi hP hinv hfp hIc S => ?_) (fun ρ led h tk hinv S => fin I ρ led h tk hinv S) n 0 ρ _ h₂ tk₂ (by simp) S₂ hI (hst I 0 ρ led _ (h0 I h S fun p hp z => by have := S.get hp; rw [z, hIn] at this; cases this) fun x o m _ => .tail _ m) (fun b hb => by obtain rfl := List.mem_singleton.mp hb; exact ⟨_, .head _⟩) (.head _)
  · exact pureP q
  · obtain ⟨_, t, rfl⟩ := hP
    obtain ⟨oI, mI, cI⟩ := hIc
    have e : (0 : Int) + (i : Int) * 1 = i := by simp
    rw [e]
    refine targetP N S hx fun h' tk' S' => ?_
    refine monoP (turn i I oI t _ _ _ _ hi hinv mI cI S') (fun f s₂ z => ?_) fun _ _ z => z
    cases f with
    | next =>
      obtain ⟨ρ', led', h'', tk'', e, S'', hi', hk'⟩ := z
      refine ⟨ρ', led', h'', tk'', e, S'', hi', fun b hb o m => ?_⟩
      obtain rfl := List.mem_singleton.mp hb
      exact hk' o m
    | ret v => exact z
    | brk => exact z
    | cont => exact z

/-! for .., .. in <list>: -/
theorem ForList {e target : Expr} {pos : Pos} {body : List Stmt} {y : Addr} {vs : List Value} {k : Nat} {elts : List Expr} {k' : Nat} {tpos : Pos} {Q : Flow → Shared → Prop} (N : EnvOK env a xs) (S : St W a xs ρ led h) (hh : A.handled = none) (ht : target = .Tuple elts k' tpos)
    (he : Ev W A env a xs ρ led e (· = .ref y)) (my : (y, lstO vs k) ∈ led) (hn : vs.length ≤ 1000000)
    (inv : Addr → Nat → List (Option Value) → List (Addr × Obj) → Prop) (hst : ∀ I i ρ led led', inv I i ρ led → (∀ x o, (x, o) ∈ led → x ≠ I → (x, o) ∈ led') → inv I i ρ led') (h0 : ∀ I h, St W a xs ρ led h → (∀ p ∈ led, p.1 ≠ I) → inv I 0 ρ led)
    (turn : ∀ i I oI v ρ led h tk, vs[i]? = some v → inv I i ρ led → (I, oI) ∈ led → oI.cls = .type "list_iterator" → (y, lstO vs k) ∈ led → St W a xs ρ led h → wpP W.M A (assign target env v) (fun _ s₁ => wpP W.M A (execs body env) (fun f s₂ => match f with
          | .next => ∃ ρ' led' h' tk', s₂ = ⟨h', G, D, tk', O⟩ ∧ St W a xs ρ' led' h' ∧ inv I (i + 1) ρ' led' ∧ (∀ o, (I, o) ∈ led → (I, o) ∈ led') ∧ (y, lstO vs k) ∈ led'
          | .ret v => Q (.ret v) s₂
          | _ => False) (NoteE W A env (fun r s' => match r with | .ok f => Q f s' | .error x => CameE W A env E x s')) s₁) (NoteE W A env (fun r s' => match r with | .ok f => Q f s' | .error x => CameE W A env E x s')) ⟨h, G, D, tk, O⟩)
    (fin : ∀ I ρ led h tk, inv I vs.length ρ led → St W a xs ρ led h → Q .next ⟨h, G, D, tk, O⟩)
    (hs : ∀ x, foldedSetIterable e env x = pure x := by intro _; rfl) :
    wpP W.M A (exec (.For target e body [] pos) env) Q E ⟨h, G, D, tk, O⟩ := by
  refine ForP (he.go S fun v h₁ tk₁ ev S₁ => ?_) hs
  subst ev
  have hL : h₁.IsList y vs.toArray := ⟨_, S₁.get my, rfl, _, rfl⟩
  refine up (wpAny_pyIter_list hL ?_)
  have hlt := Heap.lt_size (S₁.get my)
  have hne : y ≠ h₁.objs.size := Nat.ne_of_lt hlt
  have S₂ := S₁.push { cls := .type "list_iterator", data := .fields #[.ref y, .int 0 0] }
  have Wk := walks_strong (Walks.list (prog := W.prog) (w := W.w) (A := A) hh h₁.objs.size y hne vs.toArray)
  refine forLoopP (n := vs.length) (P := fun i v => i < vs.toArray.size ∧ vs.toArray[i]? = some v) (Stt := fun i h => h.IsListIter h₁.objs.size y i ∧ h.IsList y vs.toArray) (fp := [h₁.objs.size, y]) (by simpa using Wk) (.type "list_iterator") (fun i h e => let ⟨o, a, b, c⟩ := e.1; ⟨o, a, b⟩) (fun i v s Q E st q => ?_)
    (fun i ρ led => inv h₁.objs.size i ρ led ∧ (y, lstO vs k) ∈ led) (fun i ρ led led' hi hk => ⟨hst _ i ρ led led' hi.1 hk, hk _ _ hi.2 hne⟩) (fun i v ρ led h tk hi hP hinv hfp hIc S => ?_) (fun ρ led h tk hinv S => fin _ ρ led h tk hinv.1 S) vs.length 0 ρ _ _ tk₁ (by simp) S₂ ⟨⟨_, Heap.get?_push_size _ rfl, rfl, rfl⟩, hL.push _⟩ ⟨hst _ 0 ρ led _ (h0 _ _ S₁ fun p hp => Nat.ne_of_lt (S₁.led_lt hp)) fun x o m _ => .tail _ m, .tail _ my⟩ (fun b hb => ?_) (.head _)
  · subst ht
    cases v with
    | ref T => exact up (wpAny_letOwnedTupleGo_listiter st.1 q)
    | _ => exact pureP q
  · obtain ⟨oI, mI, cI⟩ := hIc
    have hv : vs[i]? = some v := by simpa using hP.2
    refine monoP (turn i _ oI v _ _ _ _ hv hinv.1 mI cI hinv.2 S) (fun _ s₁ z => monoP z (fun f s₂ z => ?_) fun _ _ z => z) fun _ _ z => z
    cases f with
    | next =>
      obtain ⟨ρ', led', h'', tk'', e, S'', hi', hk', hy'⟩ := z
      refine ⟨ρ', led', h'', tk'', e, S'', ⟨hi', hy'⟩, fun b hb o m => ?_⟩
      rcases List.mem_cons.mp hb with rfl | hb
      · exact hk' o m
      · obtain rfl := List.mem_singleton.mp hb
        have e1 := S.get m
        rw [S.get hinv.2] at e1
        cases e1
        exact hy'
    | ret v => exact z
    | brk => exact z
    | cont => exact z
  · rcases List.mem_cons.mp hb with rfl | hb
    · exact ⟨_, .head _⟩
    · obtain rfl := List.mem_singleton.mp hb
      exact ⟨_, .tail _ my⟩
end
end Mine

end
section
set_option maxRecDepth 100000
open PySem PySem.W PySem.Calls PyProof.Rows
open Sem (wp)
set_option Elab.async false
set_option linter.unusedVariables false
namespace Mine
open Builtin Builtin.Bytes

section
variable {W : Wd} {A : Around} {E : Value → Shared → Prop} {a : Act} {xs : List Str} {ρ : List (Option Value)} {led : List (Addr × Obj)} {h h' : Heap} {G : Array GenState} {D : Drawn} {tk : Nat} {O : OsState} {env : Env}

/-- a def with one variable that its comprehension looks at -/
theorem fnCP {R : Result → Shared → Prop} {n : Nat} {fa : Addr} {oc : Value} {od an : Option Addr} {osl : Array (Option Value)} {name qual : Str} {params : Arguments} {body : List Stmt} {scope : Scope} {dV kV doc pm cdv ct : Value} {args : Args} {binds : List (Str × Value)} {ys : List Str} {ρ' : List (Option Value)} {cx : Str}
    (S : St W a xs ρ led h) (hA : AOK A a (n + 1)) (ho : W.K.lookup fa = some ⟨oc, od, .func (fnOf name qual params body scope dV kV doc pm an cdv ct), osl⟩) (hcd : codeIn W.K cdv qual = true)
    (hb : BindsTo ⟨h, G, D, tk, O⟩ (fnOf name qual params body scope dV kV doc pm an cdv ct) args binds)
    (hcells : ∀ n, cellsFrom n scope.names [] = [(cx, n)])
    (hloc : ∀ y ∈ binds, scope.names.lookup y.1 = some .local ∨ (scope.names.lookup y.1 = some .cell ∧ y.1 = cx)) (nd : ys.Nodup)
    (hr : ∀ (i : Nat) (x : Str) (v : Value), ys[i]? = some x → ρ'[i]? = some (some v) → bindL (fun n => scope.names.lookup n) binds (fun _ => none) x = some v)
    (hco : scope.isCoroutine = false) (hgen : scope.isGenerator = false) (hk : scope.kind = .function)
    (k : ∀ a' h₁ tk₁ c o, a'.L = h.objs.size → Child W a a' xs ρ (envOfC qual scope a'.L fa cdv) → (envOfC qual scope a'.L fa cdv).cells = [(cx, c)] → o.data = .cell (bindC (fun n => scope.names.lookup n) binds (fun _ => none) cx) → (∀ p ∈ led, p.1 ≠ c) → St W a' ys ρ' ((c, o) :: led) h₁ → AOK (A.deeper (envOfC qual scope a'.L fa cdv)) a' n →
      Body W (A.deeper (envOfC qual scope a'.L fa cdv)) R body (envOfC qual scope a'.L fa cdv) ⟨h₁, G, D, tk₁, O⟩) :
    codeP W.M A (.call (.ref fa) args) R ⟨h, G, D, tk, O⟩ := by
  refine treeC rfl ?_
  show wpP _ A.in1 (callAny (.ref fa) args) _ _ _
  simp only [callAny]
  refine bindP (up (wpAny_load (S.X _ _ ho) ?_))
  obtain ⟨c, oc', vs, tq, hc, hoc, hdc, hq⟩ := codeRec_of S.X hcd
  subst hc
  simp only [callFunction, hco, hgen]
  refine bindP (m := field (.ref c) 1) (up (wpAny_field hoc hdc hq ?_))
  refine bindP (pureP (bindP (up (hb _ _ _ _ ?_))))
  refine bindP (up (wpAny_newFunctionEnv_cells hk (fun x hx => ?_) fun env' he s' x => ?_))
  · rcases hloc x hx with e | ⟨e, e'⟩
    · exact .inl e
    · refine .inr ⟨e, ?_⟩
      rw [hcells, e']; simp
  have heq : env' = envOfC qual scope h.objs.size fa (.ref c) := by rw [he]; rfl
  subst heq
  obtain ⟨⟨⟨h₁, tk₁, rfl⟩, hns, keep, _⟩, hcell, _, _⟩ := x
  have room : A.in1.depth < recursionLimit := hA.room
  have hlim : h₁.NoLimit := by
    obtain ⟨m, F, _⟩ := S.vars
    obtain ⟨mg, mb, T⟩ := S.ok.T
    exact ((T.keeps F.keep).keeps keep).nolimit
  refine bindP (up (wpAny_enterFrame hlim room ?_))
  refine pureP (And.intro rfl ?_)
  obtain ⟨a', eL, ch, S', hg, hf⟩ := S.call (envOfC qual scope h.objs.size fa (.ref c)) (ys := ys) (ρ' := ρ') (h₁ := h₁) rfl hk nd hns hr keep
  have hcs : (envOfC qual scope h.objs.size fa (.ref c)).cells = [(cx, h.objs.size + 1)] := hcells _
  obtain ⟨o, ho', hod⟩ := hcell cx (h.objs.size + 1) (by rw [hcs]; simp)
  have S'' := S'.add ho' (by rw [eL]; exact Nat.succ_ne_self _) (hg _ (Nat.le_succ _)) (fun q hq z => by have := hf q hq; rw [← z] at this; exact Nat.not_succ_lt_self this)
  have z := k a' h₁ tk₁ _ o eL (eL ▸ ch) (by rw [eL]; exact hcs) hod (fun p hp z => by have := S.led_lt hp; rw [z] at this; exact Nat.not_succ_lt_self this) S'' ⟨by show A.frames.map _ = _; rw [hA.fr, ch.envs, eL]; rfl, hA.hd, by have := hA.dp; show A.depth + 1 + n ≤ 900; omega, by have := hA.un; show A.units + 3 + 20 * n ≤ 9000; omega⟩
  refine funcP ?_
  rw [eL] at z
  exact z

theorem EnvOK.mkC {a : Act} {xs : List Str} {qual : Str} {sc : Scope} {fa : Addr} {cd : Value} (hk : sc.kind = .function) (h : namesOK sc xs = true) : EnvOK (envOfC qual sc a.L fa cd) a xs :=
  ⟨rfl, hk, namesOK_of h, rfl, rfl, rfl⟩
theorem Ev.cell {x : Str} {pos : Pos} {v : Value} {c : Addr} {o : Obj} (N : EnvOK env a xs) (hc : env.cells = [(x, c)]) (m : (c, o) ∈ led) (hd : o.data = .cell (some v)) (hx : (env.kindOf x == some .cell && !(x == ("__debug__" : Str))) = true := by kernel_rfl) : Ev W A env a xs ρ led (.Name x pos) (· = v) := ⟨fun S q => by
  simp only [Bool.and_eq_true, beq_iff_eq, Bool.not_eq_true'] at hx
  exact up (wpAny_Name (wpAny_loadName_cell N.kind hx.1 (by rw [hc]; simp) ⟨o, S.get m, hd⟩ (q _ _ _ rfl S)) hx.2)⟩
theorem Ev.cellI {x : Str} {pos : Pos} {i : Int} {t : Tok} {c : Addr} {o : Obj} (N : EnvOK env a xs) (hc : env.cells = [(x, c)]) (m : (c, o) ∈ led) (hd : o.data = .cell (some (.int i t))) (hx : (env.kindOf x == some .cell && !(x == ("__debug__" : Str))) = true := by kernel_rfl) : Ev W A env a xs ρ led (.Name x pos) (IsI i) :=
  (Ev.cell N hc m hd hx).mono fun _ e => ⟨t, e⟩
theorem SetCell {x : Str} {pos' value pos P} {c : Addr} {o : Obj} {v₀ : Option Value} {Q : Flow → Shared → Prop} (N : EnvOK env a xs) (S : St W a xs ρ led h) (he : Ev W A env a xs ρ led value P) (hc : env.cells = [(x, c)]) (m : (c, o) ∈ led) (hd : o.data = .cell v₀)
    (k : ∀ v o' h' tk', P v → o'.data = .cell (some v) → St W a xs ρ (updL c o' led) h' → Q .next ⟨h', G, D, tk', O⟩) (hx : (env.kindOf x == some .cell && !(x == ("__debug__" : Str))) = true := by kernel_rfl)
    (hs : swapsWith value (some (.Name x pos')) pos.line env = pure false := by rfl) : wpP W.M A (exec (.Assign [.Name x pos'] value pos) env) Q E ⟨h, G, D, tk, O⟩ := by
  simp only [Bool.and_eq_true, beq_iff_eq, Bool.not_eq_true'] at hx
  refine AssignNameP (he.go S fun v h' tk' p S' => ?_) hs
  refine up (wpAny_storeName_cell N.kind hx.1 (by rw [hc]; simp) ⟨o, S'.get m, hd⟩ fun h₂ hv hsb => ?_)
  obtain ⟨o', ho', hd'⟩ := hv
  exact k v o' _ _ p hd' (S'.change m (fun b x n e => hsb.extBut b x n e) ho')
end
end Mine

end
section
set_option maxRecDepth 100000
open PySem PySem.W PySem.Calls PyProof.Rows
open Sem (wp)
set_option Elab.async false
set_option linter.unusedVariables false
namespace Mine
def defOK (sc : Scope) (ps ys : List Str) : Bool := sc.names.all (fun x => x.2 != .cell) && !sc.isCoroutine && !sc.isGenerator && sc.kind == .function && ps.all (fun x => sc.names.lookup x == some .local) && namesOK sc ys && decide ys.Nodup
def defOKC (sc : Scope) (ps ys : List Str) (cx : Str) : Bool := !sc.isCoroutine && !sc.isGenerator && sc.kind == .function && ps.all (fun x => sc.names.lookup x == some .local || (sc.names.lookup x == some .cell && x == cx)) && namesOK sc ys && decide ys.Nodup
section
variable {W : Wd} {A : Around} {E : Value → Shared → Prop} {a : Act} {xs : List Str} {ρ : List (Option Value)} {led : List (Addr × Obj)} {h h' : Heap} {G : Array GenState} {D : Drawn} {tk : Nat} {O : OsState} {env : Env}

theorem fnQ {R : Result → Shared → Prop} {fa : Addr} {oc : Value} {od an : Option Addr} {osl : Array (Option Value)} {name qual : Str} {params : Arguments} {body : List Stmt} {scope : Scope} {dV kV doc pm cdv ct : Value} {args : Args} (n : Nat) (binds : List (Str × Value)) (ys : List Str) (ρ' : List (Option Value))
    (S : St W a xs ρ led h) (hA : AOK A a (n + 1)) (ho : W.K.lookup fa = some ⟨oc, od, .func (fnOf name qual params body scope dV kV doc pm an cdv ct), osl⟩) (hcd : codeIn W.K cdv qual = true)
    (hb : BindsTo ⟨h, G, D, tk, O⟩ (fnOf name qual params body scope dV kV doc pm an cdv ct) args binds) (hok : defOK scope (binds.map (·.1)) ys = true) (hρ : ys.map (fun y => binds.reverse.lookup y) = ρ')
    (k : ∀ a' h₁ tk₁, Child W a a' xs ρ (envOf qual scope a'.L fa cdv) → EnvOK (envOf qual scope a'.L fa cdv) a' ys → St W a' ys ρ' led h₁ → AOK (A.deeper (envOf qual scope a'.L fa cdv)) a' n →
      Body W (A.deeper (envOf qual scope a'.L fa cdv)) R body (envOf qual scope a'.L fa cdv) ⟨h₁, G, D, tk₁, O⟩) :
    codeP W.M A (.call (.ref fa) args) R ⟨h, G, D, tk, O⟩ := by
  simp only [defOK, Bool.and_eq_true, List.all_eq_true, bne_iff_ne, Bool.not_eq_true', beq_iff_eq, decide_eq_true_eq] at hok
  obtain ⟨⟨⟨⟨⟨⟨h1, h2⟩, h3⟩, h4⟩, h5⟩, h6⟩, h7⟩ := hok
  refine fnP (n := n) S hA ho hcd hb (fun y hy => h5 _ (List.mem_map_of_mem hy)) h7 (fun i x v e1 e2 => ?_) h1 h2 h3 h4 fun a' h₁ tk₁ eL ch S' hA' => k a' h₁ tk₁ ch (EnvOK.mk' h4 h6) S' hA'
  rw [← hρ, List.getElem?_map, e1] at e2
  simpa using e2

theorem fnCQ {R : Result → Shared → Prop} {fa : Addr} {oc : Value} {od an : Option Addr} {osl : Array (Option Value)} {name qual : Str} {params : Arguments} {body : List Stmt} {scope : Scope} {dV kV doc pm cdv ct : Value} {args : Args} (n : Nat) (binds : List (Str × Value)) (ys : List Str) (ρ' : List (Option Value)) (cx : Str) (cv : Option Value)
    (S : St W a xs ρ led h) (hA : AOK A a (n + 1)) (ho : W.K.lookup fa = some ⟨oc, od, .func (fnOf name qual params body scope dV kV doc pm an cdv ct), osl⟩) (hcd : codeIn W.K cdv qual = true)
    (hb : BindsTo ⟨h, G, D, tk, O⟩ (fnOf name qual params body scope dV kV doc pm an cdv ct) args binds) (hok : defOKC scope (binds.map (·.1)) ys cx = true)
    (hcells : ∀ n, cellsFrom n scope.names [] = [(cx, n)]) (hρ : ys.map (bindL (fun n => scope.names.lookup n) binds (fun _ => none)) = ρ') (hcv : bindC (fun n => scope.names.lookup n) binds (fun _ => none) cx = cv)
    (k : ∀ a' h₁ tk₁ c o, Child W a a' xs ρ (envOfC qual scope a'.L fa cdv) → EnvOK (envOfC qual scope a'.L fa cdv) a' ys → (envOfC qual scope a'.L fa cdv).cells = [(cx, c)] → o.data = .cell cv → (∀ p ∈ led, p.1 ≠ c) → St W a' ys ρ' ((c, o) :: led) h₁ → AOK (A.deeper (envOfC qual scope a'.L fa cdv)) a' n →
      Body W (A.deeper (envOfC qual scope a'.L fa cdv)) R body (envOfC qual scope a'.L fa cdv) ⟨h₁, G, D, tk₁, O⟩) :
    codeP W.M A (.call (.ref fa) args) R ⟨h, G, D, tk, O⟩ := by
  simp only [defOKC, Bool.and_eq_true, List.all_eq_true, Bool.not_eq_true', beq_iff_eq, decide_eq_true_eq, Bool.or_eq_true] at hok
  obtain ⟨⟨⟨⟨⟨h2, h3⟩, h4⟩, h5⟩, h6⟩, h7⟩ := hok
  refine fnCP (n := n) (cx := cx) S hA ho hcd hb hcells (fun y hy => h5 _ (List.mem_map_of_mem hy)) h7 (fun i x v e1 e2 => ?_) h2 h3 h4 fun a' h₁ tk₁ c o eL ch hc ho hne S' hA' => k a' h₁ tk₁ c o ch (EnvOK.mkC h4 h6) hc (hcv ▸ ho) hne S' hA'
  rw [← hρ, List.getElem?_map, e1] at e2
  simpa using e2

/-! raise, out of the def -/
theorem RaiseE {a' : Act} {ys : List Str} {ρ' : List (Option Value)} {led' : List (Addr × Obj)} {x : Str} {C : Addr} {np cpos pos : Pos} {args : List Expr} {P : List Value → Prop} {n : Nat} {R : Result → Shared → Prop} {Q : Flow → Shared → Prop}
    (X : Exc W x C) (N : EnvOK env a' ys) (hA : AOK A a' n) (ch : Child W a a' xs ρ env) (S : St W a' ys ρ' led' h) (ha : EvL W A env a' ys ρ' led' args P) (hP : ∀ vs, P vs → vs.length ≤ 1000) (hl : ∀ p ∈ led, p ∈ led')
    (kerr : ∀ e h' tk', Er W a xs ρ led e C h' → R (.error (.ref e)) ⟨h', G, D, tk', O⟩)
    (hx : (env.kindOf x == some .globalImplicit && !(x == ("__debug__" : Str))) = true := by kernel_rfl) (hp : (backTo cpos (starEach args env)).any (·.1) = false := by rfl) :
    wpP W.M A (exec (.Raise (some (.Call (.Name x np) args [] cpos)) none pos) env) Q (fun e s' => wpP W.M A (leaving env e) (fun _ s'' => R (.error e) s'') (fun e' s'' => R (.error e') s'') s') ⟨h, G, D, tk, O⟩ := by
  simp only [Bool.and_eq_true, beq_iff_eq, Bool.not_eq_true'] at hx
  refine RaiseP X S hA.hd N.glob N.bui N.kind hx (ha.go S fun vs h₂ tk₂ pv S₂ => ⟨_, _, h₂, tk₂, rfl, S₂, hP vs pv, fun h₃ e hm => ?_⟩) hp
  exact leave_made S₂ ch hm hA.fr hl fun h₄ r => kerr e h₄ _ r
theorem EvL.one {e : Expr} {P : Value → Prop} (he : Ev W A env a xs ρ led e P) (hp : starEach [e] env = [(false, eval e env)] := by rfl) : EvL W A env a xs ρ led [e] (fun vs => ∃ v, vs = [v] ∧ P v) :=
  ⟨fun S q => (EvL.cons he .nil hp).go S fun vs h' tk' ⟨v, r, e1, p, e2⟩ S' => q vs h' tk' ⟨v, by rw [e1, e2], p⟩ S'⟩
theorem one_le {vs : List Value} {P : Value → Prop} (h : ∃ v, vs = [v] ∧ P v) : vs.length ≤ 1000 := by obtain ⟨v, rfl, _⟩ := h; exact Nat.le_of_ble_eq_true rfl
theorem EvL.two {e f : Expr} {P P' : Value → Prop} (he : Ev W A env a xs ρ led e P) (hf : Ev W A env a xs ρ led f P') (hp : starEach [e, f] env = (false, eval e env) :: starEach [f] env := by rfl) (hp' : starEach [f] env = [(false, eval f env)] := by rfl) : EvL W A env a xs ρ led [e, f] (fun vs => ∃ v u, vs = [v, u] ∧ P v ∧ P' u) :=
  ⟨fun S q => (EvL.cons he (.cons hf .nil hp') hp).go S fun vs h' tk' ⟨v, r, e1, p, u, r', e2, p', e3⟩ S' => q vs h' tk' ⟨v, u, by rw [e1, e2, e3], p, p'⟩ S'⟩
end
end Mine

end
section
set_option Elab.async false
namespace Mine
/-! ## The octets of numbers, in plain Lean -/
def groups (n : Nat) : List Nat := if h : n < 128 then [n] else (n % 128 + 128) :: groups (n / 128)
termination_by n
decreasing_by omega
theorem groups_small {n : Nat} (h : n < 128) : groups n = [n] := by rw [groups, dif_pos h]
theorem groups_big {n : Nat} (h : 128 ≤ n) : groups n = (n % 128 + 128) :: groups (n / 128) := by rw [groups, dif_neg (by omega)]
theorem groups_lt (n : Nat) : ∀ x ∈ groups n, x < 256 := by
  induction n using Nat.strongRecOn with
  | ind n ih =>
    by_cases h : n < 128
    · rw [groups_small h]; intro x hx; simp at hx; omega
    · rw [groups_big (by omega)]
      intro x hx
      rcases List.mem_cons.mp hx with rfl | hx
      · omega
      · exact ih _ (by omega) x hx
theorem groups_length_le (n k : Nat) (hk : 0 < k) (h : n < 128 ^ k) : (groups n).length ≤ k := by
  induction k generalizing n with
  | zero => omega
  | succ k ih =>
    by_cases hn : n < 128
    · rw [groups_small hn]; simp
    · rw [groups_big (by omega), List.length_cons]
      have : 0 < k := by
        rcases k with _ | k
        · simp at h; omega
        · omega
      have := ih (n / 128) this (by rw [Nat.pow_succ] at h; exact Nat.div_lt_of_lt_mul (by rw [Nat.mul_comm]; exact h))
      omega
theorem groups_pos (n : Nat) : 0 < (groups n).length := by
  by_cases h : n < 128
  · rw [groups_small h]; simp
  · rw [groups_big (by omega)]; simp
def le (w n : Nat) : List Nat := (List.range w).map fun j => n / 256 ^ j % 256
theorem le_lt (w n : Nat) : ∀ x ∈ le w n, x < 256 := by
  intro x hx
  obtain ⟨j, _, rfl⟩ := List.mem_map.mp hx
  exact Nat.mod_lt _ (by decide)
theorem le_length (w n : Nat) : (le w n).length = w := by simp [le]
end Mine

end
section
set_option maxRecDepth 100000
open PySem PySem.W PySem.Calls PyProof.Rows
set_option Elab.async false
namespace Mine
/-! ## Bits -/
theorem bitOr_nat (a b : Nat) : Builtin.bitOr (a : Int) (b : Int) = ((a ||| b : Nat) : Int) := by
  have n1 : ∀ x : Int, Builtin.bitNot x = -x - 1 := fun x => by unfold Builtin.bitNot; omega
  unfold Builtin.bitOr Builtin.bitAnd
  rw [n1 a, n1 b]
  have h1 : decide ((0 : Int) ≤ -(a : Int) - 1) = false := by simp; omega
  have h2 : decide ((0 : Int) ≤ -(b : Int) - 1) = false := by simp; omega
  rw [h1, h2]
  dsimp only
  rw [n1, n1, n1, n1]
  have e1 : (-(-(a : Int) - 1) - 1).toNat = a := by omega
  have e2 : (-(-(b : Int) - 1) - 1).toNat = b := by omega
  rw [e1, e2]
  omega
theorem or_shift (x y k : Nat) (h : x < 2 ^ k) : x ||| y * 2 ^ k = x + y * 2 ^ k := by
  have := Nat.two_pow_add_eq_or_of_lt h y
  rw [Nat.or_comm, Nat.mul_comm, ← this]; omega
theorem group_octet (r : Nat) : Builtin.bitOr (Builtin.bitAnd (r : Int) 127) 128 = ((r % 128 + 128 : Nat) : Int) := by
  rw [bitAnd_m7]
  have e : ((r : Int) % 128) = ((r % 128 : Nat) : Int) := by omega
  have e2 : (128 : Int) = ((128 : Nat) : Int) := rfl
  rw [e, e2, bitOr_nat]
  have := or_shift (r % 128) 1 7 (Nat.mod_lt _ (by decide))
  simp only [Nat.one_mul] at this
  rw [show (2 : Nat) ^ 7 = 128 from rfl] at this
  rw [this]
theorem shr_nat (n k : Nat) : (n : Int).fdiv (2 ^ ((k : Int)).toNat) = ((n / 2 ^ k : Nat) : Int) := by
  rw [Int.fdiv_eq_ediv_of_nonneg _ (by exact Int.le_of_lt (Int.pow_pos (by decide))), Int.toNat_natCast]
  simp
theorem and255 (n : Nat) : Builtin.bitAnd (n : Int) 255 = ((n % 256 : Nat) : Int) := by rw [bitAnd_m8]; omega
theorem le4 (n : Nat) (h : n < 2 ^ 32) : le 4 n = [n % 256, n / 256 % 256, n / 65536 % 256, n / 16777216] := by
  have : n / 16777216 % 256 = n / 16777216 := by omega
  simp [le, List.range_succ, this]
theorem le8 (n : Nat) (h : n < 2 ^ 64) : le 8 n = le 4 (n % 2 ^ 32) ++ le 4 (n / 2 ^ 32) := by
  simp only [le, List.range_succ, List.range_zero, List.map_append, List.map_cons, List.map_nil, List.nil_append, List.append_assoc, List.cons_append]
  congr 1
  · omega
  congr 1
  · omega
  congr 1
  · omega
  congr 1
  · omega
  congr 1
  · omega
  congr 1
  · omega
  congr 1
  · omega
  congr 1
  omega
theorem and_max32 (n : Nat) : Builtin.bitAnd (n : Int) 4294967295 = ((n % 2 ^ 32 : Nat) : Int) := by rw [bitAnd_m32]; omega
end Mine

end
section
set_option Elab.async false
namespace Mine
/-! ## Reading numbers, in plain Lean -/
inductive Out
  | bad
  | short
  | val (n k : Nat)
def scan : Nat → List Nat → Out
  | 0, _ => .bad
  | _ + 1, [] => .short
  | m + 1, x :: r => if x < 128 then .val x 1 else match scan m r with
    | .val n k => .val (x % 128 + 128 * n) (k + 1)
    | o => o
def Out.limit (o : Out) (limit : Nat) : Out := match o with
  | .val n k => if limit ≤ n then .bad else .val n k
  | o => o
def number (most limit : Nat) (l : List Nat) : Out := (scan most l).limit limit
def Out.lift (i acc : Nat) : Out → Out
  | .val n k => .val (acc + 128 ^ i * n) (i + k)
  | o => o
theorem lift_zero (o : Out) : o.lift 0 0 = o := by cases o <;> simp [Out.lift]
theorem lift_step {m x : Nat} {r : List Nat} {i acc : Nat} (h : 128 ≤ x) : (scan (m + 1) (x :: r)).lift i acc = (scan m r).lift (i + 1) (acc + 128 ^ i * (x % 128)) := by
  rw [scan, if_neg (by omega)]
  cases scan m r with
  | bad => rfl
  | short => rfl
  | val n k =>
    simp only [Out.lift]
    congr 1
    · rw [Nat.pow_succ, Nat.mul_add, Nat.mul_assoc, Nat.add_assoc]
    · omega
theorem lift_end {m x : Nat} {r : List Nat} {i acc : Nat} (h : x < 128) : (scan (m + 1) (x :: r)).lift i acc = .val (acc + 128 ^ i * x) (i + 1) := by
  rw [scan, if_pos h]; rfl
theorem lift_short {m i acc : Nat} : (scan (m + 1) []).lift i acc = .short := rfl
theorem lift_bad {l : List Nat} {i acc : Nat} : (scan 0 l).lift i acc = .bad := by cases l <;> rfl
theorem scan_small {m x : Nat} {r : List Nat} (h : x < 128) : scan (m + 1) (x :: r) = .val x 1 := by rw [scan, if_pos h]
theorem acc_lt {i acc x : Nat} (h : acc < 128 ^ i) (hx : x < 128) : acc + 128 ^ i * x < 128 ^ (i + 1) := by
  rw [Nat.pow_succ]
  have : 128 ^ i * (x + 1) ≤ 128 ^ i * 128 := Nat.mul_le_mul_left _ (by omega)
  rw [Nat.mul_add] at this
  omega
theorem scan_len {m : Nat} {l : List Nat} {n k : Nat} (h : scan m l = .val n k) : k ≤ l.length ∧ 0 < k := by
  induction m generalizing l n k with
  | zero => cases l <;> cases h
  | succ m ih =>
    cases l with
    | nil => cases h
    | cons x r =>
      rw [scan] at h
      split at h
      · cases h; simp
      · split at h
        · rename_i n' k' e
          cases h
          have := ih e
          simp; omega
        · rename_i o e
          exact absurd h (by intro z; exact e _ _ z)
theorem number_val {m limit : Nat} {l : List Nat} {n k : Nat} (h : number m limit l = .val n k) : scan m l = .val n k ∧ n < limit := by
  unfold number Out.limit at h
  split at h
  · rename_i n' k' e
    split at h
    · cases h
    · cases h; exact ⟨e, by omega⟩
  · rename_i o e
    exact absurd h (by intro z; exact e _ _ z)
/-- a little-endian number -/
def lev : List Nat → Nat
  | [] => 0
  | x :: r => x + 256 * lev r
end Mine

end
section
set_option Elab.async false
namespace Mine
/-! ## Written and read again, in plain Lean -/
theorem scan_groups (n m : Nat) (r : List Nat) (h : (groups n).length ≤ m) : scan m (groups n ++ r) = .val n (groups n).length := by
  induction n using Nat.strongRecOn generalizing m with
  | ind n ih =>
    by_cases hn : n < 128
    · rw [groups_small hn] at h ⊢
      cases m with
      | zero => simp at h
      | succ m => simp [scan, hn]
    · rw [groups_big (by omega)] at h ⊢
      cases m with
      | zero => simp at h
      | succ m =>
        simp only [List.length_cons, Nat.add_le_add_iff_right] at h
        have e := ih (n / 128) (by omega) m h
        rw [List.cons_append, scan, if_neg (by omega), e]
        simp only [List.length_cons]
        congr 1
        omega
theorem number_groups (n m lim : Nat) (r : List Nat) (h : (groups n).length ≤ m) (hl : n < lim) : number m lim (groups n ++ r) = .val n (groups n).length := by
  unfold number
  rw [scan_groups n m r h]
  simp only [Out.limit]
  rw [if_neg (by omega)]
theorem number10 (n : Nat) (r : List Nat) (h : n < 18446744073709551616) : number 10 18446744073709551616 (groups n ++ r) = .val n (groups n).length :=
  number_groups n 10 _ r (groups_length_le n 10 (by decide) (Nat.lt_of_lt_of_le h (by decide))) h
theorem number5 (n : Nat) (r : List Nat) (h : n < 4294967296) : number 5 4294967296 (groups n ++ r) = .val n (groups n).length :=
  number_groups n 5 _ r (groups_length_le n 5 (by decide) (Nat.lt_of_lt_of_le h (by decide))) h
theorem scan_tight {m : Nat} {l : List Nat} {n k : Nat} (h : scan m l = .val n k) (hl : ∀ x ∈ l, x < 256) : (groups n).length ≤ k ∧ ((groups n).length = k → groups n = l.take k) := by
  induction m generalizing l n k with
  | zero => cases l <;> cases h
  | succ m ih =>
    cases l with
    | nil => cases h
    | cons x r =>
      have hx := hl x (.head _)
      rw [scan] at h
      split at h
      · rename_i hx'
        cases h
        rw [groups_small hx']; simp
      · rename_i hx'
        split at h
        · rename_i n' k' e
          cases h
          obtain ⟨h1, h2⟩ := ih e fun y hy => hl y (.tail _ hy)
          have hk := (scan_len e).2
          by_cases hn : x % 128 + 128 * n' < 128
          · rw [groups_small hn]
            simp only [List.length_cons, List.length_nil]
            exact ⟨by omega, fun e => by omega⟩
          · rw [groups_big (by omega)]
            have e1 : (x % 128 + 128 * n') / 128 = n' := by omega
            have e2 : (x % 128 + 128 * n') % 128 + 128 = x := by omega
            rw [e1, e2]
            simp only [List.length_cons, List.take_succ_cons]
            exact ⟨by omega, fun e => by rw [h2 (by omega)]⟩
        · rename_i o e
          exact absurd h (by intro z; exact e _ _ z)
theorem le_succ (w n : Nat) : le (w + 1) n = n % 256 :: le w (n / 256) := by
  simp only [le, List.range_succ_eq_map, List.map_cons, List.map_map, Nat.pow_zero, Nat.div_one]
  congr 1
  apply List.map_congr_left
  intro j _
  simp only [Function.comp, Nat.pow_succ, Nat.succ_eq_add_one]
  rw [Nat.mul_comm, Nat.div_div_eq_div_mul]
theorem le_zero (n : Nat) : le 0 n = [] := by simp [le]
theorem le_lev (l : List Nat) (hl : ∀ x ∈ l, x < 256) : le l.length (lev l) = l := by
  induction l with
  | nil => exact le_zero _
  | cons x r ih =>
    have hx := hl x (.head _)
    rw [List.length_cons, le_succ, lev]
    have e1 : (x + 256 * lev r) % 256 = x := by omega
    have e2 : (x + 256 * lev r) / 256 = lev r := by omega
    rw [e1, e2, ih fun y hy => hl y (.tail _ hy)]
theorem lev_le (w n : Nat) (h : n < 256 ^ w) : lev (le w n) = n := by
  induction w generalizing n with
  | zero => rw [le_zero]; simp at h; simp [lev, h]
  | succ w ih =>
    rw [le_succ, lev, ih (n / 256) (by rw [Nat.pow_succ] at h; exact Nat.div_lt_of_lt_mul (by rw [Nat.mul_comm]; exact h))]
    omega
theorem lev_lt (l : List Nat) (hl : ∀ x ∈ l, x < 256) : lev l < 256 ^ l.length := by
  induction l with
  | nil => simp [lev]
  | cons x r ih =>
    have hx := hl x (.head _)
    have := ih fun y hy => hl y (.tail _ hy)
    rw [lev, List.length_cons, Nat.pow_succ]
    omega
/-! sums -/
theorem sum_map_mul (c : Int) (f : Nat → Int) (l : List Nat) : (l.map fun j => c * f j).sum = c * (l.map f).sum := by
  induction l with
  | nil => simp
  | cons x r ih => simp only [List.map_cons, List.sum_cons, ih, Int.mul_add]
theorem lev_sum (l : List Nat) : ((List.range l.length).map fun j => ((l.getD j 0 : Nat) : Int) * (256 : Int) ^ j).sum = (lev l : Int) := by
  induction l with
  | nil => simp [lev]
  | cons x r ih =>
    rw [List.length_cons, List.range_succ_eq_map, List.map_cons, List.map_map, List.sum_cons]
    have e : ((fun j => (((x :: r).getD j 0 : Nat) : Int) * (256 : Int) ^ j) ∘ Nat.succ) = fun j => (256 : Int) * (((r.getD j 0 : Nat) : Int) * (256 : Int) ^ j) := by
      funext j
      simp only [Function.comp, Nat.succ_eq_add_one, List.getD_cons_succ, Int.pow_succ]
      rw [Int.mul_comm ((256 : Int) ^ j) 256, ← Int.mul_assoc, ← Int.mul_assoc, Int.mul_comm ((r.getD j 0 : Nat) : Int) 256]
    rw [e, sum_map_mul, ih, lev]
    simp
/-- how far the flagged octets reach -/
def reach : Nat → List Nat → Nat
  | 0, _ => 0
  | _ + 1, [] => 0
  | m + 1, x :: r => if x < 128 then 0 else reach m r + 1
theorem scan_reach (m : Nat) (l : List Nat) : scan m l = if reach m l = m then .bad else if reach m l = l.length then .short else .val ((((List.range (reach m l + 1)).map fun j => l.getD j 0 % 128 * 128 ^ j)).sum) (reach m l + 1) := by
  induction m generalizing l with
  | zero => cases l <;> rfl
  | succ m ih =>
    cases l with
    | nil => simp [scan, reach]
    | cons x r =>
      rw [scan, reach]
      split
      · rename_i hx
        simp [hx]; omega
      · rename_i hx
        rw [ih r]
        simp only [Nat.add_right_cancel_iff, List.length_cons]
        by_cases c1 : reach m r = m
        · rw [if_pos c1, if_pos c1]
        · rw [if_neg c1, if_neg c1]
          by_cases c2 : reach m r = r.length
          · rw [if_pos c2, if_pos c2]
          · rw [if_neg c2, if_neg c2]
            simp only [Out.val.injEq, and_true]
            rw [List.range_succ_eq_map (n := reach m r + 1), List.map_cons, List.map_map, List.sum_cons]
            have e : ((fun j => (x :: r).getD j 0 % 128 * 128 ^ j) ∘ Nat.succ) = fun j => 128 * (r.getD j 0 % 128 * 128 ^ j) := by
              funext j
              simp only [Function.comp, Nat.succ_eq_add_one, List.getD_cons_succ, Nat.pow_succ]
              rw [Nat.mul_comm (128 ^ j) 128, ← Nat.mul_assoc, ← Nat.mul_assoc, Nat.mul_comm (r.getD j 0 % 128) 128]
            have e2 : ∀ (c : Nat) (f : Nat → Nat) (l : List Nat), (l.map fun j => c * f j).sum = c * (l.map f).sum := by
              intro c f l
              induction l with
              | nil => simp
              | cons x r ih => simp only [List.map_cons, List.sum_cons, ih, Nat.mul_add]
            rw [e, e2]
            simp
theorem reach_le (m : Nat) (l : List Nat) : reach m l ≤ m ∧ reach m l ≤ l.length := by
  induction m generalizing l with
  | zero => cases l <;> simp [reach]
  | succ m ih =>
    cases l with
    | nil => simp [reach]
    | cons x r =>
      rw [reach]
      split
      · simp
      · have := ih r; simp; omega
theorem reach_in {m i : Nat} {l : List Nat} (h : i < reach m l) : 128 ≤ l.getD i 0 := by
  induction m generalizing l i with
  | zero => cases l <;> simp [reach] at h
  | succ m ih =>
    cases l with
    | nil => simp [reach] at h
    | cons x r =>
      rw [reach] at h
      split at h
      · omega
      · cases i with
        | zero => simp; omega
        | succ i => rw [List.getD_cons_succ]; exact ih (by omega)
theorem reach_at {m : Nat} {l : List Nat} (h : reach m l < m) (h2 : reach m l < l.length) : l.getD (reach m l) 0 < 128 := by
  induction m generalizing l with
  | zero => omega
  | succ m ih =>
    cases l with
    | nil => simp at h2
    | cons x r =>
      rw [reach] at h h2 ⊢
      split at h
      · rename_i hx; rw [if_pos hx]; simpa using hx
      · rename_i hx; rw [if_neg hx] at h2 ⊢
        rw [List.getD_cons_succ]
        exact ih (by omega) (by simpa using h2)
/-! the law's own groups -/
def digits (n : Nat) : List Nat := if h : n < 128 then [n] else n % 128 :: digits (n / 128)
termination_by n
decreasing_by omega
theorem digits_small {n : Nat} (h : n < 128) : digits n = [n] := by rw [digits, dif_pos h]
theorem digits_big {n : Nat} (h : 128 ≤ n) : digits n = n % 128 :: digits (n / 128) := by rw [digits, dif_neg (by omega)]
theorem digits_length (n : Nat) : (digits n).length = (groups n).length := by
  induction n using Nat.strongRecOn with
  | ind n ih =>
    by_cases h : n < 128
    · rw [digits_small h, groups_small h]
    · rw [digits_big (by omega), groups_big (by omega), List.length_cons, List.length_cons, ih _ (by omega)]
theorem digits_lt (n : Nat) : ∀ x ∈ digits n, x < 128 := by
  induction n using Nat.strongRecOn with
  | ind n ih =>
    by_cases h : n < 128
    · rw [digits_small h]; intro x hx; simp at hx; omega
    · rw [digits_big (by omega)]
      intro x hx
      rcases List.mem_cons.mp hx with rfl | hx
      · omega
      · exact ih _ (by omega) x hx
theorem digits_groups (n : Nat) : ((digits n).take ((digits n).length - 1)).map (· + 128) ++ (digits n).drop ((digits n).length - 1) = groups n := by
  induction n using Nat.strongRecOn with
  | ind n ih =>
    by_cases h : n < 128
    · rw [digits_small h, groups_small h]; rfl
    · have e := ih (n / 128) (by omega)
      have p : 0 < (digits (n / 128)).length := by rw [digits_length]; exact groups_pos _
      rw [digits_big (by omega), groups_big (by omega), List.length_cons, Nat.add_sub_cancel]
      obtain ⟨k, hk⟩ : ∃ k, (digits (n / 128)).length = k + 1 := ⟨_, (Nat.sub_add_cancel p).symm⟩
      rw [hk] at e ⊢
      simp only [Nat.add_sub_cancel] at e
      rw [List.take_succ_cons, List.drop_succ_cons, List.map_cons, List.cons_append, e]
end Mine

end
section
set_option Elab.async false
set_option maxRecDepth 100000
namespace Mine
/-! ## What a read gives, what a write adds -/
inductive Ans
  | ok (v : DV) (size : Nat)
  | short
  | bad
def Ans.code : Ans → Int
  | .ok _ _ => 0
  | .short => 1
  | .bad => 2
def Ans.dv : Ans → DV
  | .ok v _ => v
  | _ => .int 0
def Ans.size : Ans → Nat
  | .ok _ k => k
  | _ => 0
def Out.ans : Out → Ans
  | .val n k => .ok (.int n) k
  | .short => .short
  | .bad => .bad
def lookN (l : List Nat) (w : Nat) : Ans := if l.length < w then .short else .ok (.int (lev (l.take w))) w
def lookF : List Nat → Ans
  | [] => .short
  | x :: _ => if 1 < x then .bad else .ok (.bool (x == 1)) 1
def lookL (l : List Nat) : Ans := match number 5 4294967296 l with
  | .val n k => if l.length < k + n then .short else .ok (.byt ((l.drop k).take n)) (k + n)
  | .short => .short
  | .bad => .bad
def lookT (n : Int) (l : List Nat) : Ans := if n < 0 ∨ (l.length : Int) < n then .short else .ok (.byt (l.take n.toNat)) n.toNat
def look (kind : Nat) (n : Int) (l : List Nat) : Ans := match kind with
  | 0 => lookN l 1
  | 1 => (number 10 18446744073709551616 l).ans
  | 2 => lookF l
  | 3 => lookN l 4
  | 4 => lookN l 8
  | 5 => lookL l
  | _ => lookT n l
def encN (i : Int) (w : Nat) : Option (List Nat) := if 0 ≤ i ∧ i < 256 ^ w then some (le w i.toNat) else none
def encV (i : Int) : Option (List Nat) := if 0 ≤ i ∧ i < 18446744073709551616 then some (groups i.toNat) else none
def enc (kind : Nat) (d : DV) : Option (List Nat) := match kind, d with
  | 0, .int i => encN i 1
  | 1, .int i => encV i
  | 2, .int i => some [if i = 0 then 0 else 1]
  | 2, .bool b => some [if b then 1 else 0]
  | 3, .int i => encN i 4
  | 4, .int i => encN i 8
  | 5, .byt l => some (groups l.length ++ l)
  | 6, .byt l => some l
  | _, _ => none
/-- a value that the law writes by this kind -/
def Fit : Nat → DV → Prop
  | 0, .int _ => True
  | 1, .int _ => True
  | 2, .int _ => True
  | 3, .int _ => True
  | 4, .int _ => True
  | 5, .byt l => l.length ≤ 1000 ∧ ∀ x ∈ l, x < 256
  | 6, .byt l => l.length ≤ 1000 ∧ ∀ x ∈ l, x < 256
  | _, _ => False
/-- .. and how it is read -/
def asRead (kind : Nat) (d : DV) : DV := match kind, d with
  | 2, .int i => .bool (i != 0)
  | _, d => d
def lenOf (kind : Nat) (d : DV) : Int := match kind, d with
  | 5, .byt l => l.length
  | 6, .byt l => l.length
  | _, _ => 0

theorem encV_some {i : Int} {o : List Nat} (h : encV i = some o) : ∃ n : Nat, i = n ∧ n < 18446744073709551616 ∧ o = groups n := by
  unfold encV at h
  split at h
  · rename_i hi
    obtain ⟨n, rfl⟩ := Int.eq_ofNat_of_zero_le hi.1
    cases h
    have h2 := hi.2
    exact ⟨n, rfl, by omega, by rw [Int.toNat_natCast]⟩
  · cases h
theorem encN_some {i : Int} {w : Nat} {o : List Nat} (h : encN i w = some o) : ∃ n : Nat, i = n ∧ n < 256 ^ w ∧ o = le w n := by
  unfold encN at h
  split at h
  · rename_i hi
    obtain ⟨n, rfl⟩ := Int.eq_ofNat_of_zero_le hi.1
    cases h
    have h2 := hi.2
    refine ⟨n, rfl, ?_, by simp⟩
    exact Int.ofNat_lt.mp (by simpa using h2)
  · cases h
theorem lookN_le (w n : Nat) (r : List Nat) (h : n < 256 ^ w) : lookN (le w n ++ r) w = .ok (.int n) w := by
  unfold lookN
  rw [if_neg (by simp [le_length])]
  have : (le w n ++ r).take w = le w n := by rw [List.take_append_of_le_length (by rw [le_length]; omega), List.take_of_length_le (by rw [le_length]; omega)]
  rw [this, lev_le w n h]
theorem enc_lt {kind : Nat} {d : DV} {o : List Nat} (hf : Fit kind d) (h : enc kind d = some o) : (∀ x ∈ o, x < 256) ∧ o.length ≤ 1200 := by
  unfold enc at h
  split at h
  all_goals first
    | (obtain ⟨n, _, _, rfl⟩ := encN_some h; exact ⟨le_lt _ _, by rw [le_length]; omega⟩)
    | cases h
    | skip
  · obtain ⟨n, _, hn, rfl⟩ := encV_some h
    exact ⟨groups_lt _, Nat.le_trans (groups_length_le _ 10 (by decide) (by omega)) (by decide)⟩
  · refine ⟨fun x hx => ?_, by simp⟩
    rename_i i
    simp at hx; subst hx; split <;> omega
  · refine ⟨fun x hx => ?_, by simp⟩
    rename_i b
    simp at hx; subst hx; split <;> omega
  · rename_i l
    obtain ⟨h1, h2⟩ : l.length ≤ 1000 ∧ ∀ x ∈ l, x < 256 := hf
    refine ⟨fun x hx => ?_, ?_⟩
    · rcases List.mem_append.mp hx with hx | hx
      · exact groups_lt _ x hx
      · exact h2 x hx
    · have := groups_length_le l.length 5 (by decide) (by omega)
      rw [List.length_append]; omega
  · exact ⟨hf.2, Nat.le_trans hf.1 (by decide)⟩
theorem look_enc {kind : Nat} {d : DV} {o : List Nat} (r : List Nat) (hf : Fit kind d) (h : enc kind d = some o) : look kind (lenOf kind d) (o ++ r) = .ok (asRead kind d) o.length := by
  unfold enc at h
  split at h
  all_goals first
    | (obtain ⟨n, rfl, hn, rfl⟩ := encN_some h; rw [le_length]; exact lookN_le _ n r hn)
    | cases h
    | skip
  · obtain ⟨n, rfl, hn, rfl⟩ := encV_some h
    · show (number 10 18446744073709551616 (groups n ++ r)).ans = _
      rw [number10 n r hn]; rfl
  · rename_i i
    by_cases hi : i = 0
    · subst hi; rfl
    · simp only [if_neg hi]
      show Ans.ok (.bool true) 1 = .ok (.bool (i != 0)) 1
      have : (i != 0) = true := by simpa using hi
      rw [this]
  · exact hf.elim
  · rename_i l
    obtain ⟨h1, h2⟩ : l.length ≤ 1000 ∧ ∀ x ∈ l, x < 256 := hf
    show lookL (groups l.length ++ l ++ r) = .ok (.byt l) _
    unfold lookL
    rw [List.append_assoc, number5 l.length _ (by omega)]
    dsimp only
    rw [if_neg (by simp), List.drop_append_of_le_length (by omega), List.drop_length, List.nil_append, List.take_append_of_le_length (by omega), List.take_length, List.length_append]
  · show lookT (o.length : Int) (o ++ r) = .ok (.byt o) _
    unfold lookT
    rw [if_neg (by simp; omega), Int.toNat_natCast, List.take_append_of_le_length (by omega), List.take_length]
theorem lookN_tight {l : List Nat} {w : Nat} {v : DV} {k : Nat} (h : lookN l w = .ok v k) (hl : ∀ x ∈ l, x < 256) : k ≤ l.length ∧ ∃ n : Nat, v = DV.int (n : Int) ∧ n < 256 ^ w ∧ k = w ∧ le w n = l.take k := by
  unfold lookN at h
  split at h
  · cases h
  · rename_i hw
    cases h
    have hlen : (l.take w).length = w := by rw [List.length_take]; omega
    have ht : ∀ x ∈ l.take w, x < 256 := fun x hx => hl x (List.mem_of_mem_take hx)
    have e1 := lev_lt (l.take w) ht
    have e2 := le_lev (l.take w) ht
    rw [hlen] at e1 e2
    exact ⟨by omega, lev (l.take w), rfl, e1, rfl, e2⟩
theorem encN_nat {n w : Nat} (h : n < 256 ^ w) : encN (n : Int) w = some (le w n) := by
  unfold encN
  have : (n : Int) < 256 ^ w := by
    have := Int.ofNat_lt.mpr h
    rwa [Int.natCast_pow] at this
  rw [if_pos ⟨Int.natCast_nonneg _, this⟩, Int.toNat_natCast]
theorem enc1 {m : Nat} (h : m < 18446744073709551616) : encV (m : Int) = some (groups m) := by
  unfold encV
  rw [if_pos ⟨Int.natCast_nonneg _, Int.ofNat_lt.mpr h⟩, Int.toNat_natCast]
def Tight (l : List Nat) (k : Nat) (oo : Option (List Nat)) (exact : Prop) : Prop := k ≤ l.length ∧ ∃ o, oo = some o ∧ o.length ≤ k ∧ (o.length = k → o = l.take k) ∧ (exact → o.length = k)
theorem tightN {l : List Nat} {w : Nat} {v : DV} {k : Nat} {p : Prop} (h : lookN l w = .ok v k) (hl : ∀ x ∈ l, x < 256) : ∃ i, v = .int i ∧ Tight l k (encN i w) p := by
  obtain ⟨h1, m, rfl, h2, rfl, h3⟩ := lookN_tight h hl
  refine ⟨m, rfl, h1, le k m, encN_nat h2, ?_, fun _ => h3, fun _ => le_length _ _⟩
  rw [le_length]; exact Nat.le_refl _
theorem ans_ok {o : Out} {v : DV} {k : Nat} (h : o.ans = .ok v k) : ∃ m : Nat, o = .val m k ∧ v = .int m := by
  cases o with
  | bad => cases h
  | short => cases h
  | val m j => cases h; exact ⟨m, rfl, rfl⟩
theorem tight1 {l : List Nat} {v : DV} {k : Nat} (h : (number 10 18446744073709551616 l).ans = .ok v k) (hl : ∀ x ∈ l, x < 256) : ∃ i, v = .int i ∧ Tight l k (encV i) False := by
  obtain ⟨m, e, rfl⟩ := ans_ok h
  obtain ⟨h1, h2⟩ := number_val e
  obtain ⟨t1, t2⟩ := scan_tight h1 hl
  exact ⟨m, rfl, (scan_len h1).1, groups m, enc1 h2, t1, t2, fun z => z.elim⟩
theorem tight2 {l : List Nat} {v : DV} {k : Nat} {p : Prop} (h : lookF l = .ok v k) : ∃ b : Bool, v = .bool b ∧ Tight l k (some [if b then 1 else 0]) p := by
  cases l with
  | nil => cases h
  | cons x r =>
    have h' : (if 1 < x then Ans.bad else .ok (.bool (x == 1)) 1) = .ok v k := h
    split at h'
    · cases h'
    · rename_i hx
      cases h'
      refine ⟨x == 1, rfl, by simp, _, rfl, by simp, fun _ => ?_, fun _ => rfl⟩
      have : x = 0 ∨ x = 1 := by omega
      rcases this with rfl | rfl <;> rfl
theorem tight5 {l : List Nat} {v : DV} {k : Nat} (h : lookL l = .ok v k) (hl : ∀ x ∈ l, x < 256) : ∃ b, v = .byt b ∧ Tight l k (some (groups b.length ++ b)) False := by
  unfold lookL at h
  cases e : number 5 4294967296 l with
  | bad => rw [e] at h; cases h
  | short => rw [e] at h; cases h
  | val m j =>
    rw [e] at h
    dsimp only at h
    split at h
    · cases h
    · rename_i hm
      cases h
      obtain ⟨h1, h2⟩ := number_val e
      obtain ⟨t1, t2⟩ := scan_tight h1 hl
      have hm' : ((l.drop j).take m).length = m := by rw [List.length_take, List.length_drop]; omega
      refine ⟨_, rfl, by omega, _, rfl, ?_, fun z => ?_, fun z => z.elim⟩
      · rw [List.length_append, hm']; omega
      · rw [List.length_append, hm'] at z
        rw [hm', t2 (by omega), List.take_add]
theorem tight6 {l : List Nat} {n : Int} {v : DV} {k : Nat} {p : Prop} (h : lookT n l = .ok v k) : ∃ b, v = .byt b ∧ Tight l k (some b) p := by
  unfold lookT at h
  split at h
  · cases h
  · rename_i hn
    cases h
    have hlen : (l.take n.toNat).length = n.toNat := by rw [List.length_take]; omega
    exact ⟨_, rfl, by omega, _, rfl, by omega, fun _ => rfl, fun _ => hlen⟩
/-- what was read, written once more -/
theorem look_tight {kind : Nat} {n : Int} {l : List Nat} {v : DV} {k : Nat} (hk : kind < 7) (h : look kind n l = .ok v k) (hl : ∀ x ∈ l, x < 256) : Tight l k (enc kind v) (kind ≠ 1 ∧ kind ≠ 5) := by
  have fix : ∀ {oo} {p q : Prop}, (q → p) → Tight l k oo p → Tight l k oo q := fun hpq ⟨h1, o, h2, h3, h4, h5⟩ => ⟨h1, o, h2, h3, h4, fun z => h5 (hpq z)⟩
  match kind, hk with
  | 0, _ => obtain ⟨i, rfl, t⟩ := tightN (w := 1) h hl; exact t
  | 1, _ => obtain ⟨i, rfl, t⟩ := tight1 h hl; exact fix (fun z => z.1 rfl) t
  | 2, _ => obtain ⟨i, rfl, t⟩ := tight2 h; exact t
  | 3, _ => obtain ⟨i, rfl, t⟩ := tightN (w := 4) h hl; exact t
  | 4, _ => obtain ⟨i, rfl, t⟩ := tightN (w := 8) h hl; exact t
  | 5, _ => obtain ⟨i, rfl, t⟩ := tight5 h hl; exact fix (fun z => z.2 rfl) t
  | 6, _ => obtain ⟨i, rfl, t⟩ := tight6 h; exact t
end Mine

end
section
set_option maxRecDepth 100000
open PySem PySem.W PySem.Calls PyProof.Rows
open Sem (wp)
set_option Elab.async false
set_option linter.unusedVariables false
namespace Mine

/-! ## Static facts -/
noncomputable abbrev W0 (w : World) : Wd := ⟨pw, w, KK w.params, qv, looseW qv []⟩
section
variable {w : World}
theorem g_write_groups : GV (W0 w) "write_groups" (.ref 82) := .glob (by kernel_rfl)
theorem g_read_groups : GV (W0 w) "read_groups" (.ref 89) := .glob (by kernel_rfl)
theorem g_put_varint : GV (W0 w) "put_varint" (.ref 96) := .glob (by kernel_rfl)
theorem g_read_varint : GV (W0 w) "read_varint" (.ref 103) := .glob (by kernel_rfl)
theorem g_put_varint32 : GV (W0 w) "put_varint32" (.ref 110) := .glob (by kernel_rfl)
theorem g_read_varint32 : GV (W0 w) "read_varint32" (.ref 117) := .glob (by kernel_rfl)
theorem g_varint_length : GV (W0 w) "varint_length" (.ref 124) := .glob (by kernel_rfl)
theorem g_put_fixed32 : GV (W0 w) "put_fixed32" (.ref 131) := .glob (by kernel_rfl)
theorem g_put_fixed64 : GV (W0 w) "put_fixed64" (.ref 138) := .glob (by kernel_rfl)
theorem g_read_fixed32 : GV (W0 w) "read_fixed32" (.ref 145) := .glob (by kernel_rfl)
theorem g_read_fixed64 : GV (W0 w) "read_fixed64" (.ref 152) := .glob (by kernel_rfl)
theorem g_read_lengthed : GV (W0 w) "read_lengthed" (.ref 159) := .glob (by kernel_rfl)
theorem g__law_edges : GV (W0 w) "_law_edges" (.ref 328) := .glob (by kernel_rfl)
theorem g__law_draw : GV (W0 w) "_law_draw" (.ref 335) := .glob (by kernel_rfl)
theorem g__law_groups : GV (W0 w) "_law_groups" (.ref 340) := .glob (by kernel_rfl)
theorem g__law_value : GV (W0 w) "_law_value" (.ref 345) := .glob (by kernel_rfl)
theorem g__law_octets : GV (W0 w) "_law_octets" (.ref 350) := .glob (by kernel_rfl)
theorem g__law_write : GV (W0 w) "_law_write" (.ref 357) := .glob (by kernel_rfl)
theorem g__law_counted : GV (W0 w) "_law_counted" (.ref 364) := .glob (by kernel_rfl)
theorem g__law_read : GV (W0 w) "_law_read" (.ref 371) := .glob (by kernel_rfl)
theorem g__law_number : GV (W0 w) "_law_number" (.ref 376) := .glob (by kernel_rfl)
theorem g__law_look : GV (W0 w) "_law_look" (.ref 381) := .glob (by kernel_rfl)
theorem g__law_kind_fits : GV (W0 w) "_law_kind_fits" (.ref 388) := .glob (by kernel_rfl)
theorem g_Cursor : GV (W0 w) "Cursor" (.ref 240) := .glob (by kernel_rfl)
theorem g_Sink : GV (W0 w) "Sink" (.ref 317) := .glob (by kernel_rfl)
theorem g_MAX_32 : GV (W0 w) "MAX_32" (.int 4294967295 275) := .glob (by kernel_rfl)
theorem g_MAX_64 : GV (W0 w) "MAX_64" (.int 18446744073709551615 277) := .glob (by kernel_rfl)
theorem g_bytearray : GV (W0 w) "bytearray" (.type "bytearray") := .built (by kernel_rfl) (by kernel_rfl) (by decide +kernel)
theorem g_bytes : GV (W0 w) "bytes" (.type "bytes") := .built (by kernel_rfl) (by kernel_rfl) (by decide +kernel)
theorem g_bool : GV (W0 w) "bool" (.type "bool") := .built (by kernel_rfl) (by kernel_rfl) (by decide +kernel)
theorem g_range : GV (W0 w) "range" (.type "range") := .built (by kernel_rfl) (by kernel_rfl) (by decide +kernel)
theorem g_len : GV (W0 w) "len" (.builtin "len") := .built (by kernel_rfl) (by kernel_rfl) (by decide +kernel)
theorem g_sum : GV (W0 w) "sum" (.builtin "sum") := .built (by kernel_rfl) (by kernel_rfl) (by decide +kernel)
theorem g_isinstance : GV (W0 w) "isinstance" (.builtin "isinstance") := .built (by kernel_rfl) (by kernel_rfl) (by decide +kernel)
theorem x_ShortOctets : Exc (W0 w) "ShortOctets" 61 := ⟨by kernel_rfl, by kernel_rfl⟩
theorem x_Corrupt : Exc (W0 w) "Corrupt" 49 := ⟨by kernel_rfl, by kernel_rfl⟩
theorem x_BadOption : Exc (W0 w) "BadOption" 73 := ⟨by kernel_rfl, by kernel_rfl⟩
theorem mk_Cursor : makesIn (W0 w).K 240 = true := by kernel_rfl
theorem at_Cursor_data : AttrF (W0 w) 240 "data" := ⟨by kernel_rfl, by kernel_rfl, by kernel_rfl, by kernel_rfl, by kernel_rfl, by kernel_rfl⟩
theorem at_Cursor_at : AttrF (W0 w) 240 "at" := ⟨by kernel_rfl, by kernel_rfl, by kernel_rfl, by kernel_rfl, by kernel_rfl, by kernel_rfl⟩
theorem me_Cursor_init : findIn (W0 w).K (.ref 240) "__init__" = some (some (.ref 174)) := by kernel_rfl
theorem ty_Cursor_init : typeIn (W0 w).K (.ref 174) = some (.type "function") := by kernel_rfl
theorem me_Cursor_left : MethF (W0 w) 240 "left" 181 := ⟨by kernel_rfl, by kernel_rfl, by kernel_rfl, by kernel_rfl⟩
theorem me_Cursor_varint : MethF (W0 w) 240 "varint" 188 := ⟨by kernel_rfl, by kernel_rfl, by kernel_rfl, by kernel_rfl⟩
theorem me_Cursor_fixed32 : MethF (W0 w) 240 "fixed32" 195 := ⟨by kernel_rfl, by kernel_rfl, by kernel_rfl, by kernel_rfl⟩
theorem me_Cursor_fixed64 : MethF (W0 w) 240 "fixed64" 202 := ⟨by kernel_rfl, by kernel_rfl, by kernel_rfl, by kernel_rfl⟩
theorem me_Cursor_lengthed : MethF (W0 w) 240 "lengthed" 209 := ⟨by kernel_rfl, by kernel_rfl, by kernel_rfl, by kernel_rfl⟩
theorem me_Cursor_octet : MethF (W0 w) 240 "octet" 216 := ⟨by kernel_rfl, by kernel_rfl, by kernel_rfl, by kernel_rfl⟩
theorem me_Cursor_flag : MethF (W0 w) 240 "flag" 223 := ⟨by kernel_rfl, by kernel_rfl, by kernel_rfl, by kernel_rfl⟩
theorem me_Cursor_take : MethF (W0 w) 240 "take" 230 := ⟨by kernel_rfl, by kernel_rfl, by kernel_rfl, by kernel_rfl⟩
theorem me_Cursor_done : MethF (W0 w) 240 "done" 237 := ⟨by kernel_rfl, by kernel_rfl, by kernel_rfl, by kernel_rfl⟩
theorem mk_Sink : makesIn (W0 w).K 317 = true := by kernel_rfl
theorem at_Sink_parts : AttrF (W0 w) 317 "parts" := ⟨by kernel_rfl, by kernel_rfl, by kernel_rfl, by kernel_rfl, by kernel_rfl, by kernel_rfl⟩
theorem me_Sink_init : findIn (W0 w).K (.ref 317) "__init__" = some (some (.ref 258)) := by kernel_rfl
theorem ty_Sink_init : typeIn (W0 w).K (.ref 258) = some (.type "function") := by kernel_rfl
theorem me_Sink_varint : MethF (W0 w) 317 "varint" 265 := ⟨by kernel_rfl, by kernel_rfl, by kernel_rfl, by kernel_rfl⟩
theorem me_Sink_fixed32 : MethF (W0 w) 317 "fixed32" 272 := ⟨by kernel_rfl, by kernel_rfl, by kernel_rfl, by kernel_rfl⟩
theorem me_Sink_fixed64 : MethF (W0 w) 317 "fixed64" 279 := ⟨by kernel_rfl, by kernel_rfl, by kernel_rfl, by kernel_rfl⟩
theorem me_Sink_lengthed : MethF (W0 w) 317 "lengthed" 286 := ⟨by kernel_rfl, by kernel_rfl, by kernel_rfl, by kernel_rfl⟩
theorem me_Sink_octet : MethF (W0 w) 317 "octet" 293 := ⟨by kernel_rfl, by kernel_rfl, by kernel_rfl, by kernel_rfl⟩
theorem me_Sink_flag : MethF (W0 w) 317 "flag" 300 := ⟨by kernel_rfl, by kernel_rfl, by kernel_rfl, by kernel_rfl⟩
theorem me_Sink_raw : MethF (W0 w) 317 "raw" 307 := ⟨by kernel_rfl, by kernel_rfl, by kernel_rfl, by kernel_rfl⟩
theorem me_Sink_done : MethF (W0 w) 317 "done" 314 := ⟨by kernel_rfl, by kernel_rfl, by kernel_rfl, by kernel_rfl⟩
end
end Mine

end
section
set_option maxRecDepth 100000
open PySem PySem.W PySem.Calls PyProof.Rows
open Sem (wp)
set_option Elab.async false
set_option linter.unusedVariables false
namespace Mine
section
variable {w : World} {A : Around} {E : Value → Shared → Prop} {a : Act} {xs : List Str} {ρ : List (Option Value)} {led : List (Addr × Obj)} {h : Heap} {G : Array GenState} {D : Drawn} {tk : Nat} {O : OsState} {R : Result → Shared → Prop}

theorem log2_lt {n : Int} (h : n.natAbs < 2 ^ 200) : n.natAbs.log2 < 1920 := by
  by_cases h0 : n.natAbs = 0
  · rw [h0]; decide
  · have := (Nat.log2_lt h0).mpr h; omega
theorem c_write_groups {n m : Int} {t u : Tok} (S : St (W0 w) a xs ρ led h) (hA : AOK A a 5) (hn : n.natAbs < 2 ^ 200) (hm : m.natAbs < 2 ^ 200)
    (kok : 0 ≤ n → n ≤ m → ∀ t h' tk', St (W0 w) a xs ρ led h' → R (.ok (.ret (.bytes (ba (groups n.toNat)) t))) ⟨h', G, D, tk', O⟩)
    (kerr : n < 0 ∨ m < n → ∀ e h' tk', Er (W0 w) a xs ρ led e 73 h' → R (.error (.ref e)) ⟨h', G, D, tk', O⟩) :
    codeP (W0 w).M A (.call (.ref 82) ⟨[.int n t, .int m u], []⟩) R ⟨h, G, D, tk, O⟩ := by
  refine fnQ 4 [("n", .int n t), ("most", .int m u)] ["n", "most", "out"] [some (.int n t), some (.int m u), none] S hA rfl (by kernel_rfl) (.of_eq (by kernel_rfl)) (by kernel_rfl) (by kernel_rfl) fun a' h₁ tk₁ ch N S hA => ?_
  unfold Body
  refine execs_consP (IfE S (.bop (.or (.lt (.locI N .head rfl) .int) fun _ => .or (.gt (.locI N .head rfl) (.locI N (.tail .head) rfl)) fun _ => .nilOr)) (fun hb h tk S => ?_) (fun hb h tk S => ?_))
  · refine execs_consP (RaiseE x_BadOption N hA ch S (.one (.fstr (.cons (.fval (.locI N .head rfl) (log2_lt hn)) (.cons .strc (.cons (.fval (.locI N (.tail .head) rfl) (log2_lt hm)) .nil))) (by decide))) (fun _ => one_le) (fun _ p => p) (kerr ?_))
    simpa using hb
  · refine execs_nilP ?_
    show wpP _ _ (execs (Stmt.Assign _ _ _ :: _) _) _ _ _
    refine execs_consP (AssignNameP (CallE N S g_bytearray rfl .nil (fun vs h tk hv S => ?_)))
    subst hv
    refine call_ba0 S fun o h S ne => storeL S (.tail (.tail .head)) N.loc N.kind N.names fun h tk S => ?_
    have hn0 : 0 ≤ n ∧ n ≤ m := by simp at hb; omega
    obtain ⟨n0, rfl⟩ := Int.eq_ofNat_of_zero_le hn0.1
    have hlen : (groups n0).length ≤ 29 := groups_length_le n0 29 (by decide) (Nat.lt_of_lt_of_le (show n0 < 2 ^ 200 by simpa using hn) (by decide))
    refine execs_consP (WhileP (fun k ρ' led' => ∃ (r : Nat) (l : List Nat) (t : Tok), k = r ∧ ρ' = [some (.int r t), some (.int m u), some (.ref o)] ∧ (o, baO (ba l)) ∈ led' ∧ groups n0 = l ++ groups r ∧ ∀ p ∈ led, p ∈ led') n0 S
      ⟨n0, [], t, rfl, rfl, .head _, rfl, fun p hp => .tail _ hp⟩ (fun r ρ led₁ h tk ⟨r', l, t, hk, hρ, m, hg, hl⟩ S => ?_))
    subst hk hρ
    have hlr : l.length + (groups r).length = (groups n0).length := by rw [hg, List.length_append]
    have hpos := groups_pos r
    refine (EvB.ge (Ev.locI N .head rfl) Ev.int).go S fun h tk S => ?_
    by_cases hr : 128 ≤ r
    · rw [decide_eq_true (show (r : Int) ≥ 128 by omega), if_pos rfl]
      refine execs_consP (AppendBA S (.loc N (.tail (.tail .head)) rfl) m (.castI (.or (.and (.locI N .head rfl) .int) .int) (group_octet r)) (by omega) (by omega) (by omega) (fun h tk S => ?_) _ rfl)
      refine execs_consP (AugShr N S .head rfl .int (by decide) fun t h tk S => ?_)
      refine execs_nilP ⟨r / 128, _, _, h, tk, by omega, rfl, S, r / 128, l ++ [r % 128 + 128], t, rfl, ?_, ?_, ?_, fun p hp => ?_⟩
      · have e : (r : Int).fdiv (2 ^ (7 : Int).toNat) = ((r / 128 : Nat) : Int) := by
          rw [Int.fdiv_eq_ediv_of_nonneg _ (by decide)]; rfl
        rw [e]; rfl
      · exact updL_self m
      · rw [hg, groups_big hr, List.append_assoc]; rfl
      · exact updL_ne (hl p hp) (ne p hp)
    · rw [decide_eq_false (show ¬ (r : Int) ≥ 128 by omega), if_neg (by decide)]
      refine execs_consP (AppendBA S (.loc N (.tail (.tail .head)) rfl) m (.locI N .head rfl) (by omega) (by omega) (by omega) (fun h tk S => ?_) _ rfl)
      refine execs_consP (ReturnP (CallE N S g_bytes rfl (.one (.loc N (.tail (.tail .head)) rfl)) fun vs h tk hv S => ?_))
      obtain ⟨v, rfl, rfl⟩ := hv
      refine up (bytes_oct S (.inr ⟨o, rfl, updL_self m⟩) ?_ fun t tk => ?_)
      · simp; omega
      · rw [Int.toNat_natCast, ← groups_small (show r < 128 by omega), ← hg]
        have S := ch.ret S
        exact kok hn0.1 hn0.2 t h tk (S.onLed fun p hp => updL_ne (hl p hp) (ne p hp))
end
end Mine

end
section
set_option maxRecDepth 100000
open PySem PySem.W PySem.Calls PyProof.Rows
open Sem (wp)
set_option Elab.async false
set_option linter.unusedVariables false
namespace Mine
section
variable {W : Wd} {A : Around} {E : Value → Shared → Prop} {a : Act} {xs : List Str} {ρ : List (Option Value)} {led : List (Addr × Obj)} {h : Heap} {G : Array GenState} {D : Drawn} {tk : Nat} {O : OsState} {env : Env}
theorem EvIs.nil : EvL W A env a xs ρ led [] (fun vs => IntsAre vs []) := ⟨fun S q => EvL.nil.go S fun vs h tk e S => q vs h tk (e ▸ .nil) S⟩
theorem EvIs.cons {e es i is} (he : Ev W A env a xs ρ led e (IsI i)) (hs : EvL W A env a xs ρ led es (fun vs => IntsAre vs is)) (hp : starEach (e :: es) env = (false, eval e env) :: starEach es env := by rfl) : EvL W A env a xs ρ led (e :: es) (fun vs => IntsAre vs (i :: is)) :=
  ⟨fun S q => (EvL.cons he hs hp).go S fun vs h tk ⟨v, r, e, ⟨t, ev⟩, hr⟩ S => q vs h tk (by rw [e, ev]; exact .cons _ _ hr) S⟩
theorem BytesList {es : List Expr} {ns : List Nat} {np lp cp : Pos} {Q : Value → Shared → Prop} (N : EnvOK env a xs) (S : St W a xs ρ led h) (hh : A.handled = none) (g : GV W "bytes" (.type "bytes"))
    (hes : EvL W A env a xs ρ led es (fun vs => IntsAre vs (ns.map Int.ofNat))) (hr : ∀ n ∈ ns, n < 256) (hz : ns.length ≤ 1000) (q : ∀ t h' tk', St W a xs ρ led h' → Q (.bytes (ba ns) t) ⟨h', G, D, tk', O⟩)
    (hx : (env.kindOf "bytes" == some .globalImplicit && !(("bytes" : Str) == ("__debug__" : Str))) = true := by kernel_rfl) :
    wpP W.M A (eval (.Call (.Name "bytes" np) [.List es lp] [] cp) env) Q E ⟨h, G, D, tk, O⟩ := by
  refine CallNameP N S g rfl (fun h tk S => ?_) hx
  refine spliced_consP (ListP (hes.go S fun vs h tk hv S => newListP S (by rw [hv.length, List.length_map]; exact hz) fun y h tk S _ => spliced_nilP ⟨S.X, ?_⟩))
  exact call_bytes_list S (.head _) hv hr (Nat.le_trans hz (by decide)) hh fun t h tk S => q t h tk (S.onLed fun p hp => .tail _ hp)
end

section
variable {w : World} {A : Around} {E : Value → Shared → Prop} {a : Act} {xs : List Str} {ρ : List (Option Value)} {led : List (Addr × Obj)} {h : Heap} {G : Array GenState} {D : Drawn} {tk : Nat} {O : OsState} {R : Result → Shared → Prop}

theorem c_put_varint {n : Int} {t : Tok} (S : St (W0 w) a xs ρ led h) (hA : AOK A a 8) (hn : n.natAbs < 2 ^ 200)
    (kok : 0 ≤ n → n ≤ 18446744073709551615 → ∀ t h' tk', St (W0 w) a xs ρ led h' → R (.ok (.ret (.bytes (ba (groups n.toNat)) t))) ⟨h', G, D, tk', O⟩)
    (kerr : n < 0 ∨ 18446744073709551615 < n → ∀ e h' tk', Er (W0 w) a xs ρ led e 73 h' → R (.error (.ref e)) ⟨h', G, D, tk', O⟩) :
    codeP (W0 w).M A (.call (.ref 96) ⟨[.int n t], []⟩) R ⟨h, G, D, tk, O⟩ := by
  refine fnQ 7 [("n", .int n t)] ["n"] [some (.int n t)] S hA rfl (by kernel_rfl) (.of_eq (by kernel_rfl)) (by kernel_rfl) (by kernel_rfl) fun a' h₁ tk₁ ch N S hA => ?_
  unfold Body
  refine execs_consP (IfE S (.bop (.and (.ge (.locI N .head rfl) .int) fun _ => .and (.lt (.locI N .head rfl) .int) fun _ => .nilAnd)) (fun hb h tk S => ?_) (fun hb h tk S => ?_))
  · simp at hb
    obtain ⟨k, rfl⟩ := Int.eq_ofNat_of_zero_le hb.1
    refine execs_consP (ReturnP (BytesList (ns := [k]) N S hA.hd g_bytes (EvIs.cons (.locI N .head rfl) EvIs.nil) (by simp; omega) (by simp) fun t h tk S => ?_))
    have := kok (by omega) (by omega) t h tk (ch.ret S)
    rwa [Int.toNat_natCast, groups_small (by omega)] at this
  · refine execs_nilP ?_
    refine execs_consP (ReturnP (CallE N S g_write_groups rfl (.two (.loc N .head rfl) (.glob N g_MAX_64)) fun vs h tk hv S => ?_))
    obtain ⟨_, _, rfl, rfl, rfl⟩ := hv
    exact callP (c_write_groups S (hA.le) hn (by decide) (fun h0 h1 t h tk S => kok h0 h1 t h tk (ch.ret S)) fun hc e h tk r => leave_on r ch hA.fr (fun p hp => hp) fun h r => kerr hc e h _ r)
theorem c_put_varint32 {n : Int} {t : Tok} (S : St (W0 w) a xs ρ led h) (hA : AOK A a 8) (hn : n.natAbs < 2 ^ 200)
    (kok : 0 ≤ n → n ≤ 4294967295 → ∀ t h' tk', St (W0 w) a xs ρ led h' → R (.ok (.ret (.bytes (ba (groups n.toNat)) t))) ⟨h', G, D, tk', O⟩)
    (kerr : n < 0 ∨ 4294967295 < n → ∀ e h' tk', Er (W0 w) a xs ρ led e 73 h' → R (.error (.ref e)) ⟨h', G, D, tk', O⟩) :
    codeP (W0 w).M A (.call (.ref 110) ⟨[.int n t], []⟩) R ⟨h, G, D, tk, O⟩ := by
  refine fnQ 7 [("n", .int n t)] ["n"] [some (.int n t)] S hA rfl (by kernel_rfl) (.of_eq (by kernel_rfl)) (by kernel_rfl) (by kernel_rfl) fun a' h₁ tk₁ ch N S hA => ?_
  unfold Body
  refine execs_consP (IfE S (.bop (.and (.ge (.locI N .head rfl) .int) fun _ => .and (.lt (.locI N .head rfl) .int) fun _ => .nilAnd)) (fun hb h tk S => ?_) (fun hb h tk S => ?_))
  · simp at hb
    obtain ⟨k, rfl⟩ := Int.eq_ofNat_of_zero_le hb.1
    refine execs_consP (ReturnP (BytesList (ns := [k]) N S hA.hd g_bytes (EvIs.cons (.locI N .head rfl) EvIs.nil) (by simp; omega) (by simp) fun t h tk S => ?_))
    have := kok (by omega) (by omega) t h tk (ch.ret S)
    rwa [Int.toNat_natCast, groups_small (by omega)] at this
  · refine execs_nilP ?_
    refine execs_consP (ReturnP (CallE N S g_write_groups rfl (.two (.loc N .head rfl) (.glob N g_MAX_32)) fun vs h tk hv S => ?_))
    obtain ⟨_, _, rfl, rfl, rfl⟩ := hv
    exact callP (c_write_groups S (hA.le) hn (by decide) (fun h0 h1 t h tk S => kok h0 h1 t h tk (ch.ret S)) fun hc e h tk r => leave_on r ch hA.fr (fun p hp => hp) fun h r => kerr hc e h _ r)

theorem c_varint_length {n : Int} {t : Tok} (S : St (W0 w) a xs ρ led h) (hA : AOK A a 8) (hn : n.natAbs < 2 ^ 200)
    (kok : 0 ≤ n → n ≤ 18446744073709551615 → ∀ t h' tk', St (W0 w) a xs ρ led h' → R (.ok (.ret (.int (groups n.toNat).length t))) ⟨h', G, D, tk', O⟩)
    (kerr : n < 0 ∨ 18446744073709551615 < n → ∀ e h' tk', Er (W0 w) a xs ρ led e 73 h' → R (.error (.ref e)) ⟨h', G, D, tk', O⟩) :
    codeP (W0 w).M A (.call (.ref 124) ⟨[.int n t], []⟩) R ⟨h, G, D, tk, O⟩ := by
  refine fnQ 7 [("n", .int n t)] ["n", "count"] [some (.int n t), none] S hA rfl (by kernel_rfl) (.of_eq (by kernel_rfl)) (by kernel_rfl) (by kernel_rfl) fun a' h₁ tk₁ ch N S hA => ?_
  unfold Body
  refine execs_consP (IfE S (.bop (.or (.lt (.locI N .head rfl) .int) fun _ => .or (.gt (.locI N .head rfl) (.globI N g_MAX_64)) fun _ => .nilOr)) (fun hb h tk S => ?_) (fun hb h tk S => ?_))
  · refine execs_consP (RaiseE x_BadOption N hA ch S (.one (.fstr (.cons (.fval (.locI N .head rfl) (log2_lt hn)) (.cons .strc (.cons (.fval (.globI N g_MAX_64) (by decide +kernel)) .nil))) (by decide))) (fun _ => one_le) (fun _ p => p) (kerr ?_))
    simpa using hb
  · refine execs_nilP ?_
    have hn0 : 0 ≤ n ∧ n ≤ 18446744073709551615 := by simp at hb; omega
    obtain ⟨n0, rfl⟩ := Int.eq_ofNat_of_zero_le hn0.1
    refine execs_consP (SetE N S .int (.tail .head) fun v h tk ⟨t1, hv⟩ S => ?_)
    subst hv
    refine execs_consP (WhileP (fun k ρ' led' => ∃ (r c : Nat) (t t' : Tok), k = r ∧ ρ' = [some (.int r t), some (.int c t')] ∧ led = led' ∧ c + (groups r).length = (groups n0).length + 1) n0 S
      ⟨n0, 1, t, t1, rfl, rfl, rfl, by omega⟩ (fun r ρ led₁ h tk ⟨r', c, t, t', hk, hρ, hl, hg⟩ S => ?_))
    subst hk hρ hl
    refine (EvB.ge (Ev.locI N .head rfl) Ev.int).go S fun h tk S => ?_
    by_cases hr : 128 ≤ r
    · rw [decide_eq_true (show (r : Int) ≥ 128 by omega), if_pos rfl]
      refine execs_consP (AugShr N S .head rfl .int (by decide) fun t h tk S => ?_)
      refine execs_consP (AugAdd N S (.tail .head) rfl .int fun t' h tk S => ?_)
      refine execs_nilP ⟨r / 128, _, _, h, tk, by omega, rfl, S, r / 128, c + 1, t, t', rfl, ?_, rfl, ?_⟩
      · have e := shr_nat r 7
        have e' : (r : Int).fdiv (2 ^ (7 : Int).toNat) = ((r / 128 : Nat) : Int) := e
        rw [e']; rfl
      · rw [groups_big hr, List.length_cons] at hg; omega
    · rw [decide_eq_false (show ¬ (r : Int) ≥ 128 by omega), if_neg (by decide)]
      refine execs_consP (ReturnE S (.loc N (.tail .head) rfl) fun v h tk hv S => ?_)
      subst hv
      rw [groups_small (by omega)] at hg
      have : (c : Int) = ((groups n0).length : Int) := by simp at hg; omega
      rw [this]
      exact kok hn0.1 hn0.2 t' h tk (ch.ret S)

theorem c_put_fixed32 {n : Int} {t : Tok} (S : St (W0 w) a xs ρ led h) (hA : AOK A a 8) (hn : n.natAbs < 2 ^ 200)
    (kok : 0 ≤ n → n ≤ 4294967295 → ∀ t h' tk', St (W0 w) a xs ρ led h' → R (.ok (.ret (.bytes (ba (le 4 n.toNat)) t))) ⟨h', G, D, tk', O⟩)
    (kerr : n < 0 ∨ 4294967295 < n → ∀ e h' tk', Er (W0 w) a xs ρ led e 73 h' → R (.error (.ref e)) ⟨h', G, D, tk', O⟩) :
    codeP (W0 w).M A (.call (.ref 131) ⟨[.int n t], []⟩) R ⟨h, G, D, tk, O⟩ := by
  refine fnQ 7 [("n", .int n t)] ["n"] [some (.int n t)] S hA rfl (by kernel_rfl) (.of_eq (by kernel_rfl)) (by kernel_rfl) (by kernel_rfl) fun a' h₁ tk₁ ch N S hA => ?_
  unfold Body
  refine execs_consP (IfE S (.bop (.or (.lt (.locI N .head rfl) .int) fun _ => .or (.gt (.locI N .head rfl) (.globI N g_MAX_32)) fun _ => .nilOr)) (fun hb h tk S => ?_) (fun hb h tk S => ?_))
  · refine execs_consP (RaiseE x_BadOption N hA ch S (.one (.fstr (.cons (.fval (.locI N .head rfl) (log2_lt hn)) (.cons .strc .nil)) (by decide))) (fun _ => one_le) (fun _ p => p) (kerr ?_))
    simpa using hb
  · refine execs_nilP ?_
    have hn0 : 0 ≤ n ∧ n ≤ 4294967295 := by simp at hb; omega
    obtain ⟨n0, rfl⟩ := Int.eq_ofNat_of_zero_le hn0.1
    have e4 := le4 n0 (by omega)
    refine execs_consP (ReturnP (BytesList (ns := [n0 % 256, n0 / 256 % 256, n0 / 65536 % 256, n0 / 16777216]) N S hA.hd g_bytes
      (EvIs.cons (.castI (.and (.locI N .head rfl) .int) (and255 n0)) (EvIs.cons (.castI (.and (.castI (.shr (.locI N .head rfl) .int (by decide)) (shr_nat n0 8)) .int) (and255 _)) (EvIs.cons (.castI (.and (.castI (.shr (.locI N .head rfl) .int (by decide)) (shr_nat n0 16)) .int) (and255 _)) (EvIs.cons (.castI (.shr (.locI N .head rfl) .int (by decide)) (shr_nat n0 24)) EvIs.nil)))) (by simp; omega) (by simp) fun t h tk S => ?_))
    rw [← e4]
    exact kok hn0.1 hn0.2 t h tk (ch.ret S)

theorem c_put_fixed64 {n : Int} {t : Tok} (S : St (W0 w) a xs ρ led h) (hA : AOK A a 9) (hn : n.natAbs < 2 ^ 200)
    (kok : 0 ≤ n → n ≤ 18446744073709551615 → ∀ t h' tk', St (W0 w) a xs ρ led h' → R (.ok (.ret (.bytes (ba (le 8 n.toNat)) t))) ⟨h', G, D, tk', O⟩)
    (kerr : n < 0 ∨ 18446744073709551615 < n → ∀ e h' tk', Er (W0 w) a xs ρ led e 73 h' → R (.error (.ref e)) ⟨h', G, D, tk', O⟩) :
    codeP (W0 w).M A (.call (.ref 138) ⟨[.int n t], []⟩) R ⟨h, G, D, tk, O⟩ := by
  refine fnQ 8 [("n", .int n t)] ["n"] [some (.int n t)] S hA rfl (by kernel_rfl) (.of_eq (by kernel_rfl)) (by kernel_rfl) (by kernel_rfl) fun a' h₁ tk₁ ch N S hA => ?_
  unfold Body
  refine execs_consP (IfE S (.bop (.or (.lt (.locI N .head rfl) .int) fun _ => .or (.gt (.locI N .head rfl) (.globI N g_MAX_64)) fun _ => .nilOr)) (fun hb h tk S => ?_) (fun hb h tk S => ?_))
  · refine execs_consP (RaiseE x_BadOption N hA ch S (.one (.fstr (.cons (.fval (.locI N .head rfl) (log2_lt hn)) (.cons .strc .nil)) (by decide))) (fun _ => one_le) (fun _ p => p) (kerr ?_))
    simpa using hb
  · refine execs_nilP ?_
    have hn0 : 0 ≤ n ∧ n ≤ 18446744073709551615 := by simp at hb; omega
    obtain ⟨n0, rfl⟩ := Int.eq_ofNat_of_zero_le hn0.1
    have e8 := le8 n0 (by omega)
    refine execs_consP (ReturnE (P := IsB (le 4 (n0 % 2 ^ 32) ++ le 4 (n0 / 2 ^ 32))) S (.addB
      (.call N g_put_fixed32 rfl (.one (.castI (.and (.locI N .head rfl) (.globI N g_MAX_32)) (and_max32 n0))) fun S p q => ?_)
      (.call N g_put_fixed32 rfl (.one (.castI (.shr (.locI N .head rfl) .int (by decide)) (shr_nat n0 32))) fun S p q => ?_) (by rw [le_length, le_length]; decide)) fun v h tk hv S => ?_)
    · obtain ⟨v, rfl, t', rfl⟩ := p
      exact callP (c_put_fixed32 S hA.le (by omega) (fun _ _ t h tk S => q _ h tk ⟨t, rfl⟩ S) fun hc => by omega)
    · obtain ⟨v, rfl, t', rfl⟩ := p
      exact callP (c_put_fixed32 S hA.le (by omega) (fun _ _ t h tk S => q _ h tk ⟨t, rfl⟩ S) fun hc => by omega)
    · obtain ⟨t', rfl⟩ := hv
      rw [← e8]
      exact kok hn0.1 hn0.2 t' h tk (ch.ret S)
end
end Mine

end
section
set_option maxRecDepth 100000
open PySem PySem.W PySem.Calls PyProof.Rows
open Sem (wp)
set_option Elab.async false
set_option linter.unusedVariables false
namespace Mine
theorem Oct.onLed {led led' : List (Addr × Obj)} {v : Value} {l : List Nat} (h : Oct led v l) (k : ∀ p ∈ led, p ∈ led') : Oct led' v l := h.imp id fun ⟨x, e, m⟩ => ⟨x, e, k _ m⟩
theorem and127 (n : Nat) : Builtin.bitAnd (n : Int) 127 = ((n % 128 : Nat) : Int) := by rw [bitAnd_m7]; omega
theorem or_group {acc i x : Nat} (h : acc < 128 ^ i) : Builtin.bitOr (acc : Int) (((x % 128 : Nat) : Int) * 2 ^ (((7 * i : Nat) : Int)).toNat) = ((acc + 128 ^ i * (x % 128) : Nat) : Int) := by
  have e : (128 : Nat) ^ i = 2 ^ (7 * i) := by rw [Nat.pow_mul]
  rw [e] at h
  have e2 : ((x % 128 : Nat) : Int) * 2 ^ (((7 * i : Nat) : Int)).toNat = ((x % 128 * 2 ^ (7 * i) : Nat) : Int) := by
    rw [Int.toNat_natCast, Int.natCast_mul, Int.natCast_pow]; rfl
  rw [e2, bitOr_nat, or_shift _ _ _ h, e, Nat.mul_comm]
theorem drop_cons {l : List Nat} {p i : Nat} (h : p + i < l.length) : (l.drop p).drop i = l.getD (p + i) 0 :: (l.drop p).drop (i + 1) := by
  rw [List.drop_drop, List.drop_drop, List.drop_eq_getElem_cons h, List.getD_eq_getElem?_getD, List.getElem?_eq_getElem h]
  rfl
theorem getD_lt {l : List Nat} (hl : ∀ x ∈ l, x < 256) (i : Nat) : l.getD i 0 < 256 := by
  rw [List.getD_eq_getElem?_getD]
  by_cases h : i < l.length
  · rw [List.getElem?_eq_getElem h]; exact hl _ (List.getElem_mem h)
  · rw [List.getElem?_eq_none (by omega)]; decide

section
variable {W : Wd} {A : Around} {E : Value → Shared → Prop} {a a' : Act} {xs ys : List Str} {ρ ρ' : List (Option Value)} {led led' : List (Addr × Obj)} {h : Heap} {G : Array GenState} {D : Drawn} {tk : Nat} {O : OsState} {env : Env}
/-- raise, in a loop's turn, out of the def -/
theorem RaiseL {x : Str} {C : Addr} {np cpos pos : Pos} {args : List Expr} {P : List Value → Prop} {n : Nat} {R : Result → Shared → Prop} {Q Qn : Flow → Shared → Prop} {E₂ : Value → Shared → Prop}
    (X : Exc W x C) (N : EnvOK env a' ys) (hA : AOK A a' n) (ch : Child W a a' xs ρ env) (S : St W a' ys ρ' led' h) (ha : EvL W A env a' ys ρ' led' args P) (hP : ∀ vs, P vs → vs.length ≤ 1000) (hl : ∀ p ∈ led, p ∈ led')
    (kerr : ∀ e h' tk', Er W a xs ρ led e C h' → R (.error (.ref e)) ⟨h', G, D, tk', O⟩)
    (hx : (env.kindOf x == some .globalImplicit && !(x == ("__debug__" : Str))) = true := by kernel_rfl) (hp : (backTo cpos (starEach args env)).any (·.1) = false := by rfl) :
    wpP W.M A (exec (.Raise (some (.Call (.Name x np) args [] cpos)) none pos) env) Q (NoteE W A env (fun r s' => match r with | .ok f => Qn f s' | .error x => CameE W A env (fun e s' => wpP W.M A (leaving env e) (fun _ s'' => R (.error e) s'') E₂ s') x s')) ⟨h, G, D, tk, O⟩ := by
  simp only [Bool.and_eq_true, beq_iff_eq, Bool.not_eq_true'] at hx
  refine RaiseP X S hA.hd N.glob N.bui N.kind hx (ha.go S fun vs h₂ tk₂ pv S₂ => ⟨_, _, h₂, tk₂, rfl, S₂, hP vs pv, fun h₃ e hm => ?_⟩) hp
  exact leave_loop S₂ ch hm hA.fr hl fun h₄ r => kerr e h₄ _ r
theorem ReturnTup {es : List Expr} {k : Nat} {tp pos : Pos} {P : List Value → Prop} {Q : Flow → Shared → Prop} (S : St W a xs ρ led h) (hes : EvL W A env a xs ρ led es P) (hP : ∀ vs, P vs → vs.length ≤ 1000)
    (q : ∀ vs y h' tk', P vs → St W a xs ρ ((y, tupO vs) :: led) h' → (∀ p ∈ led, p.1 ≠ y) → Q (.ret (.ref y)) ⟨h', G, D, tk', O⟩) : wpP W.M A (exec (.Return (some (.Tuple es k tp)) pos) env) Q E ⟨h, G, D, tk, O⟩ :=
  ReturnP (TupleP (hes.go S fun vs h tk p S => newTupleP S (hP vs p) fun y h tk S ne => q vs y h tk p S ne))
theorem two_le {vs : List Value} {P P' : Value → Prop} (h : ∃ v u, vs = [v, u] ∧ P v ∧ P' u) : vs.length ≤ 1000 := by obtain ⟨v, u, rfl, _⟩ := h; exact Nat.le_of_ble_eq_true rfl
theorem Ev.locOct {x : Str} {pos : Pos} {v : Value} {l : List Nat} {i : Nat} (N : EnvOK env a xs) (hx : At xs i x) (hv : ρ[i]? = some (some v)) (ho : Oct led v l) : Ev W A env a xs ρ led (.Name x pos) (Oct led · l) := (Ev.loc N hx hv).mono fun _ e => e ▸ ho
end

section
variable {w : World} {A : Around} {E : Value → Shared → Prop} {a : Act} {xs : List Str} {ρ : List (Option Value)} {led : List (Addr × Obj)} {h : Heap} {G : Array GenState} {D : Drawn} {tk : Nat} {O : OsState} {R : Result → Shared → Prop}

theorem c_read_groups {dv : Value} {l : List Nat} {p o m : Nat} {t1 t2 t3 : Tok} (S : St (W0 w) a xs ρ led h) (hA : AOK A a 8) (hd : Oct led dv l) (hl : ∀ x ∈ l, x < 256) (hz : l.length ≤ 100000) (ho : o ≤ 10) (hm : m < 2 ^ 64)
    (kok : ∀ n k, number o (m + 1) (l.drop p) = .val n k → ∀ y u v h' tk', IsI n u → IsI (p + k : Nat) v → St (W0 w) a xs ρ ((y, tupO [u, v]) :: led) h' → (∀ p ∈ led, p.1 ≠ y) → R (.ok (.ret (.ref y))) ⟨h', G, D, tk', O⟩)
    (ks : number o (m + 1) (l.drop p) = .short → ∀ e h' tk', Er (W0 w) a xs ρ led e 61 h' → R (.error (.ref e)) ⟨h', G, D, tk', O⟩)
    (kb : number o (m + 1) (l.drop p) = .bad → ∀ e h' tk', Er (W0 w) a xs ρ led e 49 h' → R (.error (.ref e)) ⟨h', G, D, tk', O⟩) :
    codeP (W0 w).M A (.call (.ref 89) ⟨[dv, .int p t1, .int o t2, .int m t3], []⟩) R ⟨h, G, D, tk, O⟩ := by
  refine fnQ 7 [("data", dv), ("at", .int p t1), ("octets", .int o t2), ("most", .int m t3)] ["data", "at", "octets", "most", "n", "shift", "turn", "octet"] [some dv, some (.int p t1), some (.int o t2), some (.int m t3), none, none, none, none] S hA rfl (by kernel_rfl) (.of_eq (by kernel_rfl)) (by kernel_rfl) (by kernel_rfl) fun a' h₁ tk₁ ch N S hA => ?_
  unfold Body
  refine execs_consP (IfE S (.cast (.lt (.locI N (.tail .head) rfl) .int) (decide_eq_false (by omega))) (fun hb => by cases hb) (fun hb h tk S => ?_))
  refine execs_nilP ?_
  refine execs_consP (SetE N S .int (.tail (.tail (.tail (.tail .head)))) fun v h tk ⟨t4, hv⟩ S => ?_)
  subst hv
  refine execs_consP (SetE N S .int (.tail (.tail (.tail (.tail (.tail .head))))) fun v h tk ⟨t5, hv⟩ S => ?_)
  subst hv
  refine execs_consP (ForRange (n := o) N S hA.hd g_range (.tail (.tail (.tail (.tail (.tail (.tail .head)))))) (.isI (.locS S N (.tail (.tail .head)) rfl) rfl) (by omega)
    (fun I i ρ' led' => (∀ q ∈ led, q.1 ≠ I ∧ q ∈ led') ∧ ∃ (acc : Nat) (t1 t4 t5 : Tok) (x y : Option Value), ρ' = [some dv, some (.int ((p + i : Nat) : Int) t1), some (.int o t2), some (.int m t3), some (.int acc t4), some (.int ((7 * i : Nat) : Int) t5), x, y] ∧ acc < 128 ^ i ∧ scan o (l.drop p) = (scan (o - i) ((l.drop p).drop i)).lift i acc)
    (fun I i ρ led₁ led₂ ⟨h1, h2⟩ hk => ⟨fun q hq => ⟨(h1 q hq).1, hk _ _ (h1 q hq).2 (h1 q hq).1⟩, h2⟩)
    (fun I h S hI => ⟨fun q hq => ⟨hI q hq, hq⟩, 0, t1, t4, t5, none, none, rfl, by decide, by rw [lift_zero]; rfl⟩)
    (fun i I oI t ρ led₁ h tk hi ⟨h1, acc, t1, t4, t5, x, y, hρ, hacc, hs⟩ mI cI S => ?_)
    (fun I ρ led₁ h tk ⟨h1, acc, t1, t4, t5, x, y, hρ, hacc, hs⟩ S => ?_))
  · subst hρ
    have hd := hd.onLed fun q hq => (h1 q hq).2
    refine execs_consP (IfE S (.ge (.locI N (.tail .head) rfl) (.lenOct N g_len (.locOct N .head rfl hd) (by omega))) (fun hb h tk S => ?_) (fun hb h tk S => ?_))
    · refine execs_consP (RaiseL x_ShortOctets N hA ch S (.one .str) (fun _ => one_le) (fun q hq => (h1 q hq).2) (ks ?_))
      have : l.length ≤ p + i := by simp at hb; omega
      have e : (l.drop p).drop i = [] := by rw [List.drop_drop]; exact List.drop_eq_nil_of_le this
      obtain ⟨k, hk⟩ : ∃ k, o - i = k + 1 := ⟨o - i - 1, by omega⟩
      unfold number
      rw [hs, e, hk, lift_short]; rfl
    · refine execs_nilP ?_
      have hlt : p + i < l.length := by simp at hb; omega
      have hx := getD_lt hl (p + i)
      have hcons := drop_cons hlt
      obtain ⟨k, hk⟩ : ∃ k, o - i = k + 1 := ⟨o - i - 1, by omega⟩
      have hk' : o - (i + 1) = k := by omega
      rw [hcons, hk] at hs
      refine execs_consP (SetE N S (.itemOct (.locOct N .head rfl hd) (.locI N (.tail .head) rfl) hl (by omega) (by omega) (by omega)) (.tail (.tail (.tail (.tail (.tail (.tail (.tail .head))))))) fun v h tk ⟨t6, hv⟩ S => ?_)
      subst hv
      rw [Int.toNat_natCast] at S
      generalize hxe : l.getD (p + i) 0 = x at hx hs S
      refine execs_consP (AugAdd N S (.tail .head) rfl .int fun t7 h tk S => ?_)
      refine execs_consP (AugOr N S (.tail (.tail (.tail (.tail .head)))) rfl (.shl (.castI (.and (.locI N (.tail (.tail (.tail (.tail (.tail (.tail (.tail .head))))))) rfl) .int) (and127 x)) (.locI N (.tail (.tail (.tail (.tail (.tail .head))))) rfl) (by omega) (by omega) (by omega)) fun t8 h tk S => ?_)
      rw [or_group hacc] at S
      have hacc' := acc_lt hacc (Nat.mod_lt x (by decide : 0 < 128))
      have hbig : acc + 128 ^ i * (x % 128) < 2 ^ 100 := Nat.lt_of_lt_of_le hacc' (Nat.le_trans (Nat.pow_le_pow_right (by decide) (show i + 1 ≤ 10 by omega)) (by decide))
      refine execs_consP (IfE S (.lt (.locI N (.tail (.tail (.tail (.tail (.tail (.tail (.tail .head))))))) rfl) .int) (fun hb h tk S => ?_) (fun hb h tk S => ?_))
      · have hx8 : x < 128 := by simp at hb; omega
        have hxm : x % 128 = x := Nat.mod_eq_of_lt hx8
        rw [lift_end hx8] at hs
        rw [hxm] at S hbig
        generalize acc + 128 ^ i * x = val at hs S hbig
        refine execs_consP (IfE S (.gt (.locI N (.tail (.tail (.tail (.tail .head)))) rfl) (.locI N (.tail (.tail (.tail .head))) rfl)) (fun hb h tk S => ?_) (fun hb h tk S => ?_))
        · refine execs_consP (RaiseL x_Corrupt N hA ch S (.one (.fstr (.cons .strc (.cons (.fval (.locI N (.tail (.tail (.tail (.tail .head)))) rfl) (log2_lt (by omega))) (.cons .strc (.cons (.fval (.locI N (.tail (.tail (.tail .head))) rfl) (log2_lt (by omega))) .nil)))) (by decide))) (fun _ => one_le) (fun q hq => (h1 q hq).2) (kb ?_))
          unfold number
          rw [hs]
          simp only [Out.limit]
          rw [if_pos (by simp at hb; omega)]
        · refine execs_nilP ?_
          refine execs_consP (ReturnTup S (.two (.locI N (.tail (.tail (.tail (.tail .head)))) rfl) (.locI N (.tail .head) rfl)) (fun _ => two_le) fun vs y h tk pv S ne => ?_)
          obtain ⟨u, v, rfl, hu, hv⟩ := pv
          refine kok val (i + 1) ?_ y u v h tk hu ?_ ((ch.ret S).onLed fun q hq => ?_) (fun q hq => ne q (h1 q hq).2)
          · unfold number
            rw [hs]
            simp only [Out.limit]
            rw [if_neg (by simp at hb; omega)]
          · have e : ((p + i : Nat) : Int) + 1 = ((p + (i + 1) : Nat) : Int) := by omega
            rw [← e]; exact hv
          · rcases List.mem_cons.mp hq with rfl | hq
            · exact .head _
            · exact .tail _ (h1 q hq).2
      · refine execs_nilP ?_
        refine execs_consP (AugAdd N S (.tail (.tail (.tail (.tail (.tail .head))))) rfl .int fun t9 h tk S => ?_)
        have hx8 : 128 ≤ x := by simp at hb; omega
        rw [lift_step hx8] at hs
        refine execs_nilP ⟨_, _, h, tk, rfl, S, ⟨h1, acc + 128 ^ i * (x % 128), t7, t8, t9, some (.int i t), some (.int x t6), ?_, hacc', ?_⟩, fun o m => m⟩
        · have e : ((p + i : Nat) : Int) + 1 = ((p + (i + 1) : Nat) : Int) := by omega
          have e2 : ((7 * i : Nat) : Int) + 7 = ((7 * (i + 1) : Nat) : Int) := by omega
          rw [← e, ← e2]; rfl
        · rw [hs, hk']
  · subst hρ
    refine execs_consP (RaiseE x_Corrupt N hA ch S (.one (.fstr (.cons .strc (.cons (.fval (.locI N (.tail (.tail .head)) rfl) (log2_lt (by omega))) (.cons .strc .nil))) (by decide))) (fun _ => one_le) (fun q hq => (h1 q hq).2) (kb ?_))
    unfold number
    rw [hs, Nat.sub_self, lift_bad]; rfl
end
end Mine

end
section
set_option maxRecDepth 100000
open PySem PySem.W PySem.Calls PyProof.Rows
open Sem (wp)
set_option Elab.async false
set_option linter.unusedVariables false
namespace Mine
theorem cut_two {α : Type} (l : List α) (i j : Nat) (hi : i ≤ l.length) (hj : j ≤ l.length) : cut (some (i : Int)) (some (j : Int)) l = (l.drop i).take (j - i) := by
  simp only [cut, Option.elim, clipAt_nat]
  rw [Nat.min_eq_left hi, Nat.min_eq_left hj]
theorem cut_from {α : Type} (l : List α) (i : Nat) : cut (some (i : Int)) none l = l.drop i := by
  simp only [cut, Option.elim, clipAt_nat]
  by_cases h : i ≤ l.length
  · rw [Nat.min_eq_left h, List.take_of_length_le (by simp)]
  · rw [Nat.min_eq_right (by omega), List.drop_length, List.drop_eq_nil_of_le (by omega)]; simp
theorem cut_upto {α : Type} (l : List α) (j : Nat) (h : j ≤ l.length) : cut none (some (j : Int)) l = l.take j := by
  simp only [cut, Option.elim, clipAt_nat]
  rw [Nat.min_eq_left h]; simp
theorem take4 {l : List Nat} {p : Nat} (h : p + 4 ≤ l.length) : (l.drop p).take 4 = [l.getD p 0, l.getD (p + 1) 0, l.getD (p + 2) 0, l.getD (p + 3) 0] := by
  have e0 := drop_cons (l := l) (p := p) (i := 0) (by omega)
  have e1 := drop_cons (l := l) (p := p) (i := 1) (by omega)
  have e2 := drop_cons (l := l) (p := p) (i := 2) (by omega)
  have e3 := drop_cons (l := l) (p := p) (i := 3) (by omega)
  rw [List.drop_zero, Nat.add_zero] at e0
  rw [e0, e1, e2, e3]; rfl
theorem or4 {a b c d : Nat} (ha : a < 256) (hb : b < 256) (hc : c < 256) :
    Builtin.bitOr (Builtin.bitOr (Builtin.bitOr (a : Int) ((b : Int) * 2 ^ (8 : Int).toNat)) ((c : Int) * 2 ^ (16 : Int).toNat)) ((d : Int) * 2 ^ (24 : Int).toNat) = ((lev [a, b, c, d] : Nat) : Int) := by
  have eb : (b : Int) * 2 ^ (8 : Int).toNat = ((b * 2 ^ 8 : Nat) : Int) := by rw [Int.natCast_mul]; rfl
  have ec : (c : Int) * 2 ^ (16 : Int).toNat = ((c * 2 ^ 16 : Nat) : Int) := by rw [Int.natCast_mul]; rfl
  have ed : (d : Int) * 2 ^ (24 : Int).toNat = ((d * 2 ^ 24 : Nat) : Int) := by rw [Int.natCast_mul]; rfl
  rw [eb, ec, ed, bitOr_nat, bitOr_nat, bitOr_nat, or_shift a b 8 (by omega), or_shift _ c 16 (by omega), or_shift _ d 24 (by omega)]
  simp only [lev]
  omega
theorem lev_append (a b : List Nat) : lev (a ++ b) = lev a + 256 ^ a.length * lev b := by
  induction a with
  | nil => simp [lev]
  | cons x r ih =>
    rw [List.cons_append, lev, ih, lev, List.length_cons, Nat.pow_succ, Nat.mul_add, ← Nat.mul_assoc, Nat.mul_comm (256 ^ r.length) 256, Nat.add_assoc]
theorem lev8 {l : List Nat} {p : Nat} (hl : ∀ x ∈ l, x < 256) (h : p + 8 ≤ l.length) : Builtin.bitOr ((lev ((l.drop p).take 4) : Nat) : Int) (((lev ((l.drop (p + 4)).take 4) : Nat) : Int) * 2 ^ (32 : Int).toNat) = ((lev ((l.drop p).take 8) : Nat) : Int) := by
  have hlen : ((l.drop p).take 4).length = 4 := by rw [List.length_take, List.length_drop]; omega
  have e : (l.drop p).take 8 = (l.drop p).take 4 ++ (l.drop (p + 4)).take 4 := by
    rw [show (8 : Nat) = 4 + 4 from rfl, List.take_add, List.drop_drop]
  have lt := lev_lt ((l.drop p).take 4) fun x hx => hl x (List.mem_of_mem_drop (List.mem_of_mem_take hx))
  rw [hlen] at lt
  rw [e, lev_append, hlen]
  have e2 : ((lev ((l.drop (p + 4)).take 4) : Nat) : Int) * 2 ^ (32 : Int).toNat = ((lev ((l.drop (p + 4)).take 4) * 2 ^ 32 : Nat) : Int) := by rw [Int.natCast_mul]; rfl
  rw [e2, bitOr_nat, or_shift _ _ 32 (Nat.lt_of_lt_of_le lt (by decide))]
  congr 1
  rw [Nat.mul_comm]

section
variable {W : Wd} {A : Around} {env : Env} {a : Act} {xs : List Str} {ρ : List (Option Value)} {led : List (Addr × Obj)}
theorem Ev.bytesCut {e : Expr} {lo hi : Option Expr} {np sp vp cp : Pos} {l : List Nat} {llo lhi : Option Int} (N : EnvOK env a xs) (g : GV W "bytes" (.type "bytes")) (he : Ev W A env a xs ρ led e (Oct led · l)) (hz : l.length ≤ 1000000)
    (hl : match lo with | Option.none => llo = Option.none | some e => ∃ i, llo = some i ∧ Ev W A env a xs ρ led e (IsI i)) (hu : match hi with | Option.none => lhi = Option.none | some e => ∃ i, lhi = some i ∧ Ev W A env a xs ρ led e (IsI i))
    (hx : (env.kindOf "bytes" == some .globalImplicit && !(("bytes" : Str) == ("__debug__" : Str))) = true := by kernel_rfl) :
    Ev W A env a xs ρ led (.Call (.Name "bytes" np) [.Subscript e (.Slice lo hi Option.none sp) vp] [] cp) (IsB (cut llo lhi l)) := ⟨fun S q => by
  refine CallNameP N S g rfl (fun h tk S => ?_) hx
  refine spliced_consP (SubscriptP (he.go S fun v h tk hv S => SliceP S hl hu fun x lv uv h tk p1 p2 S ne => ?_))
  refine slice_oct S (hv.onLed fun _ m => .tail _ m) (.head _) p1 p2 hz fun v' led' h tk S k o => ?_
  refine spliced_nilP ⟨S.X, up (bytes_oct S o (Nat.le_trans (cut_length _ _ _) hz) fun t tk => ?_)⟩
  exact q _ _ _ ⟨t, rfl⟩ (S.onLed fun p hp => k p (.tail _ hp))⟩
theorem Ev.cutB {e : Expr} {lo hi : Option Expr} {sp vp : Pos} {l : List Nat} {llo lhi : Option Int} (he : Ev W A env a xs ρ led e (IsB l)) (hz : l.length ≤ 1000000)
    (hl : match lo with | Option.none => llo = Option.none | some e => ∃ i, llo = some i ∧ Ev W A env a xs ρ led e (IsI i)) (hu : match hi with | Option.none => lhi = Option.none | some e => ∃ i, lhi = some i ∧ Ev W A env a xs ρ led e (IsI i)) :
    Ev W A env a xs ρ led (.Subscript e (.Slice lo hi Option.none sp) vp) (IsB (cut llo lhi l)) := ⟨fun {E Q h G D tk O} S q => by
  refine SubscriptP (he.go S fun v h tk hv S => SliceP S hl hu fun x lv uv h tk p1 p2 S ne => ?_)
  obtain ⟨t, rfl⟩ := hv
  refine ⟨⟨"bytes", _, FB.slot_bytes_getitem.lookup, typeIs_bytes _ _ _⟩, up ?_⟩
  refine getItem_meets (typeIs_bytes _ _ _) (by decide) FB.slot_bytes_getitem FB.entry_bytes_getitem (FB.args_bytes_getitem_2 _ _) (KBc.meets_slice2 (ba l) t x p1 p2) ⟨⟨_, S.get (.head _), rfl, rfl⟩, ?_, fun t' k => ?_⟩
  · rw [picked_ba, ba_size, sizeLine_eq]; have := cut_length llo lhi l; omega
  · rw [picked_ba]; exact q _ _ _ ⟨_, rfl⟩ (S.onLed fun p hp => .tail _ hp)⟩
end

section
variable {w : World} {A : Around} {E : Value → Shared → Prop} {a : Act} {xs : List Str} {ρ : List (Option Value)} {led : List (Addr × Obj)} {h : Heap} {G : Array GenState} {D : Drawn} {tk : Nat} {O : OsState} {R : Result → Shared → Prop}

theorem c_read_varint {dv : Value} {l : List Nat} {p : Nat} {t1 : Tok} (S : St (W0 w) a xs ρ led h) (hA : AOK A a 9) (hd : Oct led dv l) (hl : ∀ x ∈ l, x < 256) (hz : l.length ≤ 100000)
    (kok : ∀ n k, number 10 18446744073709551616 (l.drop p) = .val n k → ∀ y u v h' tk', IsI n u → IsI (p + k : Nat) v → St (W0 w) a xs ρ ((y, tupO [u, v]) :: led) h' → (∀ p ∈ led, p.1 ≠ y) → R (.ok (.ret (.ref y))) ⟨h', G, D, tk', O⟩)
    (ks : number 10 18446744073709551616 (l.drop p) = .short → ∀ e h' tk', Er (W0 w) a xs ρ led e 61 h' → R (.error (.ref e)) ⟨h', G, D, tk', O⟩)
    (kb : number 10 18446744073709551616 (l.drop p) = .bad → ∀ e h' tk', Er (W0 w) a xs ρ led e 49 h' → R (.error (.ref e)) ⟨h', G, D, tk', O⟩) :
    codeP (W0 w).M A (.call (.ref 103) ⟨[dv, .int p t1], []⟩) R ⟨h, G, D, tk, O⟩ := by
  refine fnQ 8 [("data", dv), ("at", .int p t1)] ["data", "at"] [some dv, some (.int p t1)] S hA rfl (by kernel_rfl) (.of_eq (by kernel_rfl)) (by kernel_rfl) (by kernel_rfl) fun a' h₁ tk₁ ch N S hA => ?_
  unfold Body
  refine execs_consP (IfE S (.bop (.and (.ge (.locI N (.tail .head) rfl) .int) fun _ => .and (.lt (.locI N (.tail .head) rfl) (.lenOct N g_len (.locOct N .head rfl hd) (by omega))) fun hb => .and (.lt (.itemOct (.locOct N .head rfl hd) (.locI N (.tail .head) rfl) hl (by omega) (by omega) (of_decide_eq_true hb)) .int) fun _ => .nilAnd)) (fun hb h tk S => ?_) (fun hb h tk S => ?_))
  · simp at hb
    have hlt : p < l.length := by omega
    have hx := getD_lt hl p
    refine execs_consP (ReturnTup S (.two (.itemOct (.locOct N .head rfl hd) (.locI N (.tail .head) rfl) hl (by omega) (by omega) (by omega)) (.add (.locI N (.tail .head) rfl) .int)) (fun _ => two_le) fun vs y h tk pv S ne => ?_)
    obtain ⟨u, v, rfl, hu, hv⟩ := pv
    rw [Int.toNat_natCast] at hu
    refine kok (l.getD p 0) 1 ?_ y u v h tk hu hv (ch.ret S) ne
    have e := drop_cons (l := l) (p := p) (i := 0) (by omega)
    rw [List.drop_zero, Nat.add_zero] at e
    rw [e]
    unfold number
    have hx8 : l.getD p 0 < 128 := by
      have := hb.2
      rw [List.getD_eq_getElem?_getD]; omega
    rw [scan_small hx8]
    simp only [Out.limit]
    rw [if_neg (by omega)]
  · refine execs_nilP ?_
    refine execs_consP (ReturnP (CallE N S g_read_groups rfl (.cons (.loc N .head rfl) (.cons (.loc N (.tail .head) rfl) (.cons .int (.cons (.glob N g_MAX_64) .nil)))) fun vs h tk hv S => ?_))
    obtain ⟨_, _, rfl, rfl, _, _, rfl, rfl, _, _, rfl, ⟨t5, rfl⟩, _, _, rfl, rfl, rfl⟩ := hv
    exact callP (c_read_groups (o := 10) (m := 18446744073709551615) S (hA.le) hd hl hz (by decide) (by decide) (fun n k e y u v h tk hu hv S ne => kok n k e y u v h tk hu hv (ch.ret S) ne)
      (fun hc e h tk r => leave_on r ch hA.fr (fun p hp => hp) fun h r => ks hc e h _ r) (fun hc e h tk r => leave_on r ch hA.fr (fun p hp => hp) fun h r => kb hc e h _ r))
theorem c_read_varint32 {dv : Value} {l : List Nat} {p : Nat} {t1 : Tok} (S : St (W0 w) a xs ρ led h) (hA : AOK A a 9) (hd : Oct led dv l) (hl : ∀ x ∈ l, x < 256) (hz : l.length ≤ 100000)
    (kok : ∀ n k, number 5 4294967296 (l.drop p) = .val n k → ∀ y u v h' tk', IsI n u → IsI (p + k : Nat) v → St (W0 w) a xs ρ ((y, tupO [u, v]) :: led) h' → (∀ p ∈ led, p.1 ≠ y) → R (.ok (.ret (.ref y))) ⟨h', G, D, tk', O⟩)
    (ks : number 5 4294967296 (l.drop p) = .short → ∀ e h' tk', Er (W0 w) a xs ρ led e 61 h' → R (.error (.ref e)) ⟨h', G, D, tk', O⟩)
    (kb : number 5 4294967296 (l.drop p) = .bad → ∀ e h' tk', Er (W0 w) a xs ρ led e 49 h' → R (.error (.ref e)) ⟨h', G, D, tk', O⟩) :
    codeP (W0 w).M A (.call (.ref 117) ⟨[dv, .int p t1], []⟩) R ⟨h, G, D, tk, O⟩ := by
  refine fnQ 8 [("data", dv), ("at", .int p t1)] ["data", "at"] [some dv, some (.int p t1)] S hA rfl (by kernel_rfl) (.of_eq (by kernel_rfl)) (by kernel_rfl) (by kernel_rfl) fun a' h₁ tk₁ ch N S hA => ?_
  unfold Body
  refine execs_consP (IfE S (.bop (.and (.ge (.locI N (.tail .head) rfl) .int) fun _ => .and (.lt (.locI N (.tail .head) rfl) (.lenOct N g_len (.locOct N .head rfl hd) (by omega))) fun hb => .and (.lt (.itemOct (.locOct N .head rfl hd) (.locI N (.tail .head) rfl) hl (by omega) (by omega) (of_decide_eq_true hb)) .int) fun _ => .nilAnd)) (fun hb h tk S => ?_) (fun hb h tk S => ?_))
  · simp at hb
    have hlt : p < l.length := by omega
    have hx := getD_lt hl p
    refine execs_consP (ReturnTup S (.two (.itemOct (.locOct N .head rfl hd) (.locI N (.tail .head) rfl) hl (by omega) (by omega) (by omega)) (.add (.locI N (.tail .head) rfl) .int)) (fun _ => two_le) fun vs y h tk pv S ne => ?_)
    obtain ⟨u, v, rfl, hu, hv⟩ := pv
    rw [Int.toNat_natCast] at hu
    refine kok (l.getD p 0) 1 ?_ y u v h tk hu hv (ch.ret S) ne
    have e := drop_cons (l := l) (p := p) (i := 0) (by omega)
    rw [List.drop_zero, Nat.add_zero] at e
    rw [e]
    unfold number
    have hx8 : l.getD p 0 < 128 := by
      have := hb.2
      rw [List.getD_eq_getElem?_getD]; omega
    rw [scan_small hx8]
    simp only [Out.limit]
    rw [if_neg (by omega)]
  · refine execs_nilP ?_
    refine execs_consP (ReturnP (CallE N S g_read_groups rfl (.cons (.loc N .head rfl) (.cons (.loc N (.tail .head) rfl) (.cons .int (.cons (.glob N g_MAX_32) .nil)))) fun vs h tk hv S => ?_))
    obtain ⟨_, _, rfl, rfl, _, _, rfl, rfl, _, _, rfl, ⟨t5, rfl⟩, _, _, rfl, rfl, rfl⟩ := hv
    exact callP (c_read_groups (o := 5) (m := 4294967295) S (hA.le) hd hl hz (by decide) (by decide) (fun n k e y u v h tk hu hv S ne => kok n k e y u v h tk hu hv (ch.ret S) ne)
      (fun hc e h tk r => leave_on r ch hA.fr (fun p hp => hp) fun h r => ks hc e h _ r) (fun hc e h tk r => leave_on r ch hA.fr (fun p hp => hp) fun h r => kb hc e h _ r))
theorem c_read_fixed32 {dv : Value} {l : List Nat} {p : Nat} {t1 : Tok} (S : St (W0 w) a xs ρ led h) (hA : AOK A a 7) (hd : Oct led dv l) (hl : ∀ x ∈ l, x < 256) (hz : l.length ≤ 100000)
    (kok : p + 4 ≤ l.length → ∀ t h' tk', St (W0 w) a xs ρ led h' → R (.ok (.ret (.int (lev ((l.drop p).take 4) : Nat) t))) ⟨h', G, D, tk', O⟩)
    (ks : l.length < p + 4 → ∀ e h' tk', Er (W0 w) a xs ρ led e 61 h' → R (.error (.ref e)) ⟨h', G, D, tk', O⟩) (hp : p ≤ 100000) :
    codeP (W0 w).M A (.call (.ref 145) ⟨[dv, .int p t1], []⟩) R ⟨h, G, D, tk, O⟩ := by
  refine fnQ 6 [("data", dv), ("at", .int p t1)] ["data", "at"] [some dv, some (.int p t1)] S hA rfl (by kernel_rfl) (.of_eq (by kernel_rfl)) (by kernel_rfl) (by kernel_rfl) fun a' h₁ tk₁ ch N S hA => ?_
  unfold Body
  refine execs_consP (IfE S (.bop (.or (.lt (.locI N (.tail .head) rfl) .int) fun _ => .or (.gt (.add (.locI N (.tail .head) rfl) .int) (.lenOct N g_len (.locOct N .head rfl hd) (by omega))) fun _ => .nilOr)) (fun hb h tk S => ?_) (fun hb h tk S => ?_))
  · refine execs_consP (RaiseE x_ShortOctets N hA ch S (.one (.fstr (.cons .strc (.cons (.fval (.locI N (.tail .head) rfl) (log2_lt (by omega))) .nil)) (by decide))) (fun _ => one_le) (fun _ p => p) (ks ?_))
    simp at hb; omega
  · refine execs_nilP ?_
    have hlt : p + 4 ≤ l.length := by simp at hb; omega
    have hx : ∀ j, l.getD (p + j) 0 < 256 := fun j => getD_lt hl _
    have h0 := hx 0
    have h1 := hx 1
    have h2 := hx 2
    have h3 := hx 3
    have e4 := take4 hlt
    rw [Nat.add_zero] at h0
    have i0 : ∀ j : Nat, j < 4 → ((p : Int) + (j : Int)).toNat = p + j := fun j _ => by omega
    refine execs_consP (ReturnE S (.castI (.or (.or (.or (.castI (.itemOct (.locOct N .head rfl hd) (.locI N (.tail .head) rfl) hl (by omega) (by omega) (by omega)) (by rw [Int.toNat_natCast]))
      (.shl (.castI (.itemOct (.locOct N .head rfl hd) (.add (.locI N (.tail .head) rfl) .int) hl (by omega) (by omega) (by omega)) (by rw [show ((p : Int) + 1).toNat = p + 1 by omega])) .int (by decide) (by decide) (by omega)))
      (.shl (.castI (.itemOct (.locOct N .head rfl hd) (.add (.locI N (.tail .head) rfl) .int) hl (by omega) (by omega) (by omega)) (by rw [show ((p : Int) + 2).toNat = p + 2 by omega])) .int (by decide) (by decide) (by omega)))
      (.shl (.castI (.itemOct (.locOct N .head rfl hd) (.add (.locI N (.tail .head) rfl) .int) hl (by omega) (by omega) (by omega)) (by rw [show ((p : Int) + 3).toNat = p + 3 by omega])) .int (by decide) (by decide) (by omega))) (or4 (d := l.getD (p + 3) 0) h0 h1 h2)) fun v h tk ⟨t, hv⟩ S => ?_)
    subst hv
    rw [← e4]
    exact kok hlt t h tk (ch.ret S)
theorem c_read_fixed64 {dv : Value} {l : List Nat} {p : Nat} {t1 : Tok} (S : St (W0 w) a xs ρ led h) (hA : AOK A a 8) (hd : Oct led dv l) (hl : ∀ x ∈ l, x < 256) (hz : l.length ≤ 100000)
    (kok : p + 8 ≤ l.length → ∀ t h' tk', St (W0 w) a xs ρ led h' → R (.ok (.ret (.int (lev ((l.drop p).take 8) : Nat) t))) ⟨h', G, D, tk', O⟩)
    (ks : l.length < p + 8 → ∀ e h' tk', Er (W0 w) a xs ρ led e 61 h' → R (.error (.ref e)) ⟨h', G, D, tk', O⟩) (hp : p ≤ 100000) :
    codeP (W0 w).M A (.call (.ref 152) ⟨[dv, .int p t1], []⟩) R ⟨h, G, D, tk, O⟩ := by
  refine fnQ 7 [("data", dv), ("at", .int p t1)] ["data", "at"] [some dv, some (.int p t1)] S hA rfl (by kernel_rfl) (.of_eq (by kernel_rfl)) (by kernel_rfl) (by kernel_rfl) fun a' h₁ tk₁ ch N S hA => ?_
  unfold Body
  refine execs_consP (IfE S (.bop (.or (.lt (.locI N (.tail .head) rfl) .int) fun _ => .or (.gt (.add (.locI N (.tail .head) rfl) .int) (.lenOct N g_len (.locOct N .head rfl hd) (by omega))) fun _ => .nilOr)) (fun hb h tk S => ?_) (fun hb h tk S => ?_))
  · refine execs_consP (RaiseE x_ShortOctets N hA ch S (.one (.fstr (.cons .strc (.cons (.fval (.locI N (.tail .head) rfl) (log2_lt (by omega))) .nil)) (by decide))) (fun _ => one_le) (fun _ p => p) (ks ?_))
    simp at hb; omega
  · refine execs_nilP ?_
    have hlt : p + 8 ≤ l.length := by simp at hb; omega
    have b1 : lev ((l.drop (p + 4)).take 4) < 2 ^ 64 := by
      have := lev_lt ((l.drop (p + 4)).take 4) fun x hx => hl x (List.mem_of_mem_drop (List.mem_of_mem_take hx))
      refine Nat.lt_of_lt_of_le this (Nat.le_trans (Nat.pow_le_pow_right (by decide) (show _ ≤ 4 from ?_)) (by decide))
      rw [List.length_take]; omega
    refine execs_consP (ReturnE S (.castI (.or
      (.call N g_read_fixed32 rfl (.two (.loc N .head rfl) (.loc N (.tail .head) rfl)) fun S p q => ?_)
      (.shl (.call N g_read_fixed32 rfl (.two (.loc N .head rfl) (.add (.locI N (.tail .head) rfl) .int)) fun S p q => ?_) .int (by decide) (by decide) (by exact b1))) (lev8 hl hlt)) fun v h tk ⟨t, hv⟩ S => ?_)
    · obtain ⟨_, _, rfl, rfl, rfl⟩ := p
      exact callP (c_read_fixed32 S hA.le hd hl hz (fun _ t h tk S => q _ h tk ⟨t, rfl⟩ S) (fun hc => by omega) (by omega))
    · obtain ⟨_, _, rfl, rfl, t', rfl⟩ := p
      have e : ((p : Int) + 4) = ((p + 4 : Nat) : Int) := by omega
      rw [e]
      exact callP (c_read_fixed32 S hA.le hd hl hz (fun _ t h tk S => q _ h tk ⟨t, rfl⟩ S) (fun hc => by omega) (by omega))
    · subst hv
      exact kok hlt t h tk (ch.ret S)
theorem c_read_lengthed {dv : Value} {l : List Nat} {p : Nat} {t1 : Tok} (S : St (W0 w) a xs ρ led h) (hA : AOK A a 10) (hd : Oct led dv l) (hl : ∀ x ∈ l, x < 256) (hz : l.length ≤ 100000) (hp : p ≤ l.length)
    (kok : ∀ b k, lookL (l.drop p) = .ok (.byt b) k → ∀ y u v h' tk', IsB b u → IsI (p + k : Nat) v → St (W0 w) a xs ρ ((y, tupO [u, v]) :: led) h' → (∀ p ∈ led, p.1 ≠ y) → R (.ok (.ret (.ref y))) ⟨h', G, D, tk', O⟩)
    (ks : lookL (l.drop p) = .short → ∀ e h' tk', Er (W0 w) a xs ρ led e 61 h' → R (.error (.ref e)) ⟨h', G, D, tk', O⟩)
    (kb : lookL (l.drop p) = .bad → ∀ e h' tk', Er (W0 w) a xs ρ led e 49 h' → R (.error (.ref e)) ⟨h', G, D, tk', O⟩) :
    codeP (W0 w).M A (.call (.ref 159) ⟨[dv, .int p t1], []⟩) R ⟨h, G, D, tk, O⟩ := by
  refine fnQ 9 [("data", dv), ("at", .int p t1)] ["data", "at", "count"] [some dv, some (.int p t1), none] S hA rfl (by kernel_rfl) (.of_eq (by kernel_rfl)) (by kernel_rfl) (by kernel_rfl) fun a' h₁ tk₁ ch N S hA => ?_
  unfold Body
  refine execs_consP (SetTupleP (CallE N S g_read_varint32 rfl (.two (.loc N .head rfl) (.loc N (.tail .head) rfl)) fun vs h tk hv S => ?_))
  obtain ⟨_, _, rfl, rfl, rfl⟩ := hv
  refine callP (c_read_varint32 S hA.le hd hl hz (fun n k e y u v h tk hu hv S ne => ?_) (fun hc e h tk r => leave_on r ch hA.fr (fun p hp => hp) fun h r => ks (by unfold lookL; rw [hc]) e h _ r) (fun hc e h tk r => leave_on r ch hA.fr (fun p hp => hp) fun h r => kb (by unfold lookL; rw [hc]) e h _ r))
  have hk := (scan_len (number_val e).1).1
  rw [List.length_drop] at hk
  have hn := (number_val e).2
  obtain ⟨t2, rfl⟩ := hu
  obtain ⟨t3, rfl⟩ := hv
  refine tupleP S hA.hd (.head _) rfl rfl fun h S => ?_
  refine inOrder_consP (targetP N S (.tail (.tail .head)) fun h tk S => inOrder_consP (targetP N S (.tail .head) fun h tk S => inOrder_nilP ?_))
  have S := S.onLed (led' := led) fun p hp => .tail _ hp
  refine execs_consP (IfE S (.gt (.add (.locI N (.tail .head) rfl) (.locI N (.tail (.tail .head)) rfl)) (.lenOct N g_len (.locOct N .head rfl hd) (by omega))) (fun hb h tk S => ?_) (fun hb h tk S => ?_))
  · refine execs_consP (RaiseE x_ShortOctets N hA ch S (.one (.fstr (.cons (.fval (.locI N (.tail (.tail .head)) rfl) (log2_lt (by omega))) (.cons .strc (.cons (.fval (.sub (.lenOct N g_len (.locOct N .head rfl hd) (by omega)) (.locI N (.tail .head) rfl)) (log2_lt (by omega))) (.cons .strc .nil)))) (by decide))) (fun _ => one_le) (fun _ p => p) (ks ?_))
    unfold lookL
    rw [e]
    dsimp only
    rw [if_pos (by rw [List.length_drop]; simp at hb; omega)]
  · refine execs_nilP ?_
    have hb' : p + k + n ≤ l.length := by simp at hb; omega
    refine execs_consP (ReturnTup S (.two (.bytesCut N g_bytes (.locOct N .head rfl hd) (by omega) ⟨_, rfl, .locI N (.tail .head) rfl⟩ ⟨_, rfl, .add (.locI N (.tail .head) rfl) (.locI N (.tail (.tail .head)) rfl)⟩) (.add (.locI N (.tail .head) rfl) (.locI N (.tail (.tail .head)) rfl))) (fun _ => two_le) fun vs y h tk pv S ne => ?_)
    obtain ⟨u, v, rfl, hu, hv⟩ := pv
    have e1 : ((p + k : Nat) : Int) + (n : Int) = ((p + k + n : Nat) : Int) := by omega
    rw [e1] at hu hv
    rw [cut_two _ _ _ (by omega) hb', Nat.add_sub_cancel_left] at hu
    refine kok _ (k + n) ?_ y u v h tk hu (by rw [← Nat.add_assoc]; exact hv) (ch.ret S) ne
    unfold lookL
    rw [e]
    dsimp only
    rw [if_neg (by rw [List.length_drop]; omega), List.drop_drop]
end
end Mine

end
section
set_option maxRecDepth 100000
open PySem PySem.W PySem.Calls PyProof.Rows
open Sem (wp)
set_option Elab.async false
set_option linter.unusedVariables false
namespace Mine
theorem isStr_two {v : Value} {x y : Str} (h : v.isStr x = true) (n : y ≠ x) : v.isStr y = false := by
  unfold Value.isStr at *
  split at h
  · simp at h; subst h; simp; exact fun e => n e.symm
  · cases h
theorem getL_put_self {x : Str} {hs : Int} {t : Tok} {v : Value} : ∀ {es : List DictEntry}, getL x (putL x hs (.str x t) v es) = some (some v) := by
  intro es
  have key : ∀ es : List DictEntry, ∃ e, (putL x hs (.str x t) v es).find? (·.key.isStr x) = some e ∧ e.val = v := by
    intro es
    induction es with
    | nil => exact ⟨_, by simp [putL, Value.isStr]; rfl, rfl⟩
    | cons e r ih =>
      by_cases c : e.key.isStr x = true
      · exact ⟨⟨e.hash, e.key, v⟩, by simp [putL, c], rfl⟩
      · rw [Bool.not_eq_true] at c
        obtain ⟨e', h1, h2⟩ := ih
        exact ⟨e', by simp [putL, c, h1], h2⟩
  obtain ⟨e, h1, h2⟩ := key es
  unfold getL
  rw [h1, ← h2]
theorem getL_put_ne {x y : Str} {hs : Int} {t : Tok} {u v : Value} (n : y ≠ x) : ∀ {es : List DictEntry}, getL y es = some (some u) → getL y (putL x hs (.str x t) v es) = some (some u) := by
  intro es h
  have key : ∀ es : List DictEntry, ∀ e, es.find? (·.key.isStr y) = some e → ∃ e', (putL x hs (.str x t) v es).find? (·.key.isStr y) = some e' ∧ e'.val = e.val := by
    intro es
    induction es with
    | nil => intro e h; cases h
    | cons a r ih =>
      intro e h
      by_cases c : a.key.isStr x = true
      · have c' := isStr_two c n
        rw [List.find?_cons, c'] at h
        exact ⟨e, by simp [putL, c, c', h], rfl⟩
      · rw [Bool.not_eq_true] at c
        rw [List.find?_cons] at h
        cases cy : a.key.isStr y with
        | true => rw [cy] at h; cases h; exact ⟨a, by simp [putL, c, cy], rfl⟩
        | false =>
          rw [cy] at h
          obtain ⟨e', h1, h2⟩ := ih e h
          exact ⟨e', by simp [putL, c, cy, h1], h2⟩
  unfold getL at h
  split at h
  · rename_i e he
    cases h
    obtain ⟨e', h1, h2⟩ := key es e he
    unfold getL
    rw [h1]
    show some (some e'.val) = _
    rw [h2]
  · split at h <;> cases h
theorem putL_length (x : Str) (hs : Int) (k v : Value) : ∀ es : List DictEntry, (putL x hs k v es).length ≤ es.length + 1
  | [] => by simp [putL]
  | e :: r => by
    have := putL_length x hs k v r
    unfold putL
    split
    · simp
    · simp only [List.length_cons]; omega

theorem putL_same_length {x : Str} {hs : Int} {k v u : Value} : ∀ {es : List DictEntry}, getL x es = some (some u) → (putL x hs k v es).length = es.length := by
  intro es h
  have key : ∀ es : List DictEntry, ∀ e, es.find? (·.key.isStr x) = some e → (putL x hs k v es).length = es.length := by
    intro es
    induction es with
    | nil => intro e h; cases h
    | cons a r ih =>
      intro e h
      rw [List.find?_cons] at h
      cases c : a.key.isStr x with
      | true => simp [putL, c]
      | false => rw [c] at h; simp [putL, c, ih e h]
  unfold getL at h
  split at h
  · rename_i e he; exact key es e he
  · split at h <;> cases h
def KeysIn (ks : List Str) (es : List DictEntry) : Prop := ∀ e ∈ es, ∃ k ∈ ks, e.key.isStr k = true
theorem KeysIn.put {ks : List Str} {x : Str} {hs : Int} {t : Tok} {v : Value} (hx : x ∈ ks) : ∀ {es : List DictEntry}, KeysIn ks es → KeysIn ks (putL x hs (.str x t) v es) := by
  intro es
  induction es with
  | nil => intro _ e he; simp [putL] at he; subst he; exact ⟨x, hx, by simp [Value.isStr]⟩
  | cons a r ih =>
    intro h e he
    unfold putL at he
    split at he
    · rcases List.mem_cons.mp he with rfl | he
      · exact h a (.head _)
      · exact h e (.tail _ he)
    · rcases List.mem_cons.mp he with rfl | he
      · exact h _ (.head _)
      · exact ih (fun e he => h e (.tail _ he)) e he
theorem KeysIn.none {ks : List Str} {x : Str} {es : List DictEntry} (h : KeysIn ks es) (hx : x ∉ ks) : getL x es = some Option.none := by
  have e1 : es.find? (·.key.isStr x) = Option.none := List.find?_eq_none.mpr fun e he z => by
    obtain ⟨k, hk, hs⟩ := h e he
    have := isStr_two hs (fun q : x = k => hx (q ▸ hk))
    rw [this] at z; cases z
  have e2 : es.any (·.refKey) = false := List.any_eq_false.mpr fun e he z => by
    obtain ⟨k, hk, hs⟩ := h e he
    unfold Value.isStr at hs
    split at hs
    · rename_i s t n heq
      unfold DictEntry.refKey at z
      rw [heq] at z
      cases z
    · cases hs
  unfold getL
  rw [e1]
  show (if es.any (·.refKey) = true then _ else _) = _
  rw [e2]; rfl
/-- a cursor: its octets and its place -/
structure Cur (led : List (Addr × Obj)) (c dc : Addr) (dv : Value) (l : List Nat) (p : Nat) : Prop where
  inst : (c, instObj 240 dc) ∈ led
  dct : ∃ es n t, (dc, dictOf es n) ∈ led ∧ getL "data" es = some (some dv) ∧ getL "at" es = some (some (.int p t)) ∧ es.length ≤ 10 ∧ KeysIn ["data", "at"] es
  oct : Oct led dv l
theorem Cur.onLed {led led' : List (Addr × Obj)} {c dc dv l p} (C : Cur led c dc dv l p) (k : ∀ q ∈ led, q ∈ led') : Cur led' c dc dv l p :=
  ⟨k _ C.inst, let ⟨es, n, t, m, r⟩ := C.dct; ⟨es, n, t, k _ m, r⟩, C.oct.onLed k⟩
/-- a sink: its octets -/
structure Snk (led : List (Addr × Obj)) (c dc b : Addr) (l : List Nat) : Prop where
  inst : (c, instObj 317 dc) ∈ led
  dct : ∃ es n, (dc, dictOf es n) ∈ led ∧ getL "parts" es = some (some (.ref b)) ∧ KeysIn ["parts"] es
  oct : (b, baO (ba l)) ∈ led
theorem Snk.onLed {led led' : List (Addr × Obj)} {c dc b l} (C : Snk led c dc b l) (k : ∀ q ∈ led, q ∈ led') : Snk led' c dc b l :=
  ⟨k _ C.inst, let ⟨es, n, m, r⟩ := C.dct; ⟨es, n, k _ m, r⟩, k _ C.oct⟩

section
variable {w : World} {A : Around} {E : Value → Shared → Prop} {a : Act} {xs : List Str} {ρ : List (Option Value)} {led : List (Addr × Obj)} {h : Heap} {G : Array GenState} {D : Drawn} {tk : Nat} {O : OsState} {env : Env}

theorem Ev.curData {c dc : Addr} {dv : Value} {l : List Nat} {p : Nat} {self : Str} {np pos : Pos} {i : Nat} (N : EnvOK env a xs) (hx : At xs i self) (hv : ρ[i]? = some (some (.ref c))) (C : Cur led c dc dv l p) : Ev (W0 w) A env a xs ρ led (.Attribute (.Name self np) "data" pos) (Oct led · l) := by
  obtain ⟨es, n, t, m, h1, h2, h3⟩ := C.dct
  refine (Ev.attr N hx hv C.inst m at_Cursor_data h1 ?_).mono fun v e => e ▸ C.oct
  rcases C.oct with ⟨t, rfl⟩ | ⟨x, rfl, _⟩ <;> rfl
theorem Ev.curDataV {c dc : Addr} {dv : Value} {l : List Nat} {p : Nat} {self : Str} {np pos : Pos} {i : Nat} (N : EnvOK env a xs) (hx : At xs i self) (hv : ρ[i]? = some (some (.ref c))) (C : Cur led c dc dv l p) : Ev (W0 w) A env a xs ρ led (.Attribute (.Name self np) "data" pos) (· = dv) := by
  obtain ⟨es, n, t, m, h1, h2, h3⟩ := C.dct
  refine (Ev.attr N hx hv C.inst m at_Cursor_data h1 ?_)
  rcases C.oct with ⟨t, rfl⟩ | ⟨x, rfl, _⟩ <;> rfl
theorem Ev.curAt {c dc : Addr} {dv : Value} {l : List Nat} {p : Nat} {self : Str} {np pos : Pos} {i : Nat} (N : EnvOK env a xs) (hx : At xs i self) (hv : ρ[i]? = some (some (.ref c))) (C : Cur led c dc dv l p) : Ev (W0 w) A env a xs ρ led (.Attribute (.Name self np) "at" pos) (IsI p) := by
  obtain ⟨es, n, t, m, h1, h2, h3⟩ := C.dct
  exact (Ev.attr N hx hv C.inst m at_Cursor_at h2 rfl).mono fun v e => ⟨t, e⟩
theorem Ev.snkParts {c dc b : Addr} {l : List Nat} {self : Str} {np pos : Pos} {i : Nat} (N : EnvOK env a xs) (hx : At xs i self) (hv : ρ[i]? = some (some (.ref c))) (C : Snk led c dc b l) : Ev (W0 w) A env a xs ρ led (.Attribute (.Name self np) "parts" pos) (· = .ref b) := by
  obtain ⟨es, n, m, h1, h2⟩ := C.dct
  exact Ev.attr N hx hv C.inst m at_Sink_parts h1 rfl

/-- the place set -/
theorem setCur {c dc : Addr} {dv : Value} {l : List Nat} {p q : Nat} {t : Tok} {Q : Unit → Shared → Prop} (S : St (W0 w) a xs ρ led h) (C : Cur led c dc dv l p)
    (k : ∀ led' h' tk', St (W0 w) a xs ρ led' h' → Cur led' c dc dv l q → (∀ r ∈ led, r.1 ≠ dc → r ∈ led') → Q () ⟨h', G, D, tk', O⟩) : wpP (W0 w).M A (setAttr (.ref c) "at" (.int q t)) Q E ⟨h, G, D, tk, O⟩ := by
  obtain ⟨es, n, t', m, h1, h2, h3, h4⟩ := C.dct
  refine setAttrP S C.inst m at_Cursor_at (by rw [h2]; rfl) (by omega) fun t2 h' tk' S' => k _ _ _ S' ⟨?_, ⟨_, _, t, updL_self m, getL_put_ne (by decide) h1, getL_put_self, by rw [putL_same_length h2]; exact h3, h4.put (by simp)⟩, ?_⟩ fun r hr n => updL_ne hr n
  · exact updL_ne C.inst (S.ne C.inst m (ne_of_cls (show (Value.ref 240 : Value) ≠ .type "dict" by decide)))
  · refine C.oct.imp id fun ⟨x, e, mx⟩ => ⟨x, e, updL_ne mx (S.ne mx m (ne_of_cls (show (Value.type "bytearray" : Value) ≠ .type "dict" by decide)))⟩
theorem SetCurE {c dc : Addr} {dv : Value} {l : List Nat} {p q : Nat} {value : Expr} {np ap pos : Pos} {self : Str} {i : Nat} {Q : Flow → Shared → Prop} (N : EnvOK env a xs) (S : St (W0 w) a xs ρ led h) (hx : At xs i self) (hv : ρ[i]? = some (some (.ref c))) (C : Cur led c dc dv l p)
    (he : Ev (W0 w) A env a xs ρ led value (IsI (q : Nat))) (k : ∀ led' h' tk', St (W0 w) a xs ρ led' h' → Cur led' c dc dv l q → (∀ r ∈ led, r.1 ≠ dc → r ∈ led') → Q .next ⟨h', G, D, tk', O⟩)
    (hs : swapsWithSole [.Attribute (.Name self np) "at" ap] value pos.line env = pure false := by rfl) (hz : swappedStores [.Attribute (.Name self np) "at" ap] value env = pure none := by rfl) :
    wpP (W0 w).M A (exec (.Assign [.Attribute (.Name self np) "at" ap] value pos) env) Q E ⟨h, G, D, tk, O⟩ :=
  AssignAttrP (he.go S fun v h tk ⟨t, hv'⟩ S => (Ev.loc N hx hv).go S fun u h tk hu S => by subst hu; subst hv'; exact setCur S C k) hs hz
theorem AugCurE {c dc : Addr} {dv : Value} {l : List Nat} {p m : Nat} {value : Expr} {np ap pos : Pos} {self : Str} {i : Nat} {Q : Flow → Shared → Prop} (N : EnvOK env a xs) (S : St (W0 w) a xs ρ led h) (hx : At xs i self) (hv : ρ[i]? = some (some (.ref c))) (C : Cur led c dc dv l p)
    (he : Ev (W0 w) A env a xs ρ led value (IsI (m : Nat))) (k : ∀ led' h' tk', St (W0 w) a xs ρ led' h' → Cur led' c dc dv l (p + m) → (∀ r ∈ led, r.1 ≠ dc → r ∈ led') → Q .next ⟨h', G, D, tk', O⟩) :
    wpP (W0 w).M A (exec (.AugAssign (.Attribute (.Name self np) "at" ap) .Add value pos) env) Q E ⟨h, G, D, tk, O⟩ := by
  obtain ⟨es, n, t, md, h1, h2, h3⟩ := C.dct
  refine AugAttrP ((Ev.loc N hx hv).go S fun u h tk hu S => ?_)
  subst hu
  refine getAttrP S C.inst md at_Cursor_at h2 rfl fun tk => ?_
  refine he.go S fun v h tk ⟨t, hv'⟩ S => ?_
  subst hv'
  refine up (P.iadd_int ?_)
  have e : (p : Int) + (m : Int) = ((p + m : Nat) : Int) := by omega
  rw [e]
  exact setCur S C k
end

/-- how a read ends -/
structure RdK (w : World) (a : Act) (xs : List Str) (ρ : List (Option Value)) (led : List (Addr × Obj)) (c dc : Addr) (dv : Value) (l : List Nat) (p : Nat) (ans : Ans) (R : Result → Shared → Prop) (G : Array GenState) (D : Drawn) (O : OsState) : Prop where
  ok : ∀ v k, ans = .ok v k → ∀ u led' h' tk', v.Is u → St (W0 w) a xs ρ led' h' → Cur led' c dc dv l (p + k) → (∀ r ∈ led, r.1 ≠ dc → r ∈ led') → R (.ok (.ret u)) ⟨h', G, D, tk', O⟩
  short : ans = .short → ∀ e h' tk', Er (W0 w) a xs ρ led e 61 h' → R (.error (.ref e)) ⟨h', G, D, tk', O⟩
  bad : ans = .bad → ∀ e h' tk', Er (W0 w) a xs ρ led e 49 h' → R (.error (.ref e)) ⟨h', G, D, tk', O⟩

section
variable {w : World} {A : Around} {E : Value → Shared → Prop} {a : Act} {xs : List Str} {ρ : List (Option Value)} {led : List (Addr × Obj)} {h : Heap} {G : Array GenState} {D : Drawn} {tk : Nat} {O : OsState} {R : Result → Shared → Prop} {c dc : Addr} {dv : Value} {l : List Nat} {p : Nat}

theorem m_left (S : St (W0 w) a xs ρ led h) (hA : AOK A a 7) (C : Cur led c dc dv l p) (hz : l.length ≤ 100000)
    (k : ∀ t h' tk', St (W0 w) a xs ρ led h' → R (.ok (.ret (.int ((l.length : Int) - p) t))) ⟨h', G, D, tk', O⟩) : codeP (W0 w).M A (.call (.ref 181) ⟨[.ref c], []⟩) R ⟨h, G, D, tk, O⟩ := by
  refine fnQ 6 [("self", .ref c)] ["self"] [some (.ref c)] S hA rfl (by kernel_rfl) (.of_eq (by kernel_rfl)) (by kernel_rfl) (by kernel_rfl) fun a' h₁ tk₁ ch N S hA => ?_
  unfold Body
  refine execs_consP (ReturnE S (.sub (.lenOct N g_len (.curData N .head rfl C) (by omega)) (.curAt N .head rfl C)) fun v h tk ⟨t, hv⟩ S => ?_)
  subst hv
  exact k t h tk (ch.ret S)
theorem m_varint (S : St (W0 w) a xs ρ led h) (hA : AOK A a 11) (C : Cur led c dc dv l p) (hl : ∀ x ∈ l, x < 256) (hz : l.length ≤ 100000) (K : RdK w a xs ρ led c dc dv l p (number 10 18446744073709551616 (l.drop p)).ans R G D O) :
    codeP (W0 w).M A (.call (.ref 188) ⟨[.ref c], []⟩) R ⟨h, G, D, tk, O⟩ := by
  refine fnQ 10 [("self", .ref c)] ["self", "at", "n"] [some (.ref c), none, none] S hA rfl (by kernel_rfl) (.of_eq (by kernel_rfl)) (by kernel_rfl) (by kernel_rfl) fun a' h₁ tk₁ ch N S hA => ?_
  unfold Body
  refine execs_consP (SetE N S (.curAt N .head rfl C) (.tail .head) fun v h tk ⟨t, hv⟩ S => ?_)
  subst hv
  refine execs_consP (IfE S (.bop (.and (.lt (.locI N (.tail .head) rfl) (.lenOct N g_len (.curData N .head rfl C) (by omega))) fun hb => .and (.lt (.itemOct (.curData N .head rfl C) (.locI N (.tail .head) rfl) hl (by omega) (by omega) (of_decide_eq_true hb)) .int) fun _ => .nilAnd)) (fun hb h tk S => ?_) (fun hb h tk S => ?_))
  · simp only [Bool.and_eq_true, decide_eq_true_eq, Int.toNat_natCast] at hb
    have hlt : p < l.length := by omega
    have hx8 : l.getD p 0 < 128 := by omega
    refine execs_consP (SetCurE (q := p + 1) N S .head rfl C (.castI (.add (.locI N (.tail .head) rfl) .int) (by omega)) fun led' h tk S C' kp => ?_)
    refine execs_consP (ReturnE S (.itemOct (.curData N .head rfl C') (.locI N (.tail .head) rfl) hl (by omega) (by omega) (by omega)) fun v h tk hv S => ?_)
    rw [Int.toNat_natCast] at hv
    refine K.ok (.int (l.getD p 0 : Nat)) 1 ?_ v led' h tk hv (ch.ret S) C' kp
    have e := drop_cons (l := l) (p := p) (i := 0) (by omega)
    rw [List.drop_zero, Nat.add_zero] at e
    rw [e]
    unfold number
    rw [scan_small hx8]
    simp only [Out.limit]
    rw [if_neg (by omega)]
    rfl
  · refine execs_nilP ?_
    refine execs_consP (SetTupleP (CallE N S g_read_varint rfl (.two (.curDataV N .head rfl C) (.loc N (.tail .head) rfl)) fun vs h tk hv S => ?_))
    obtain ⟨_, _, rfl, rfl, rfl⟩ := hv
    refine callP (c_read_varint S hA.le C.oct hl hz (fun n k e y u v h tk hu hv S ne => ?_) (fun hc e h tk r => leave_on r ch hA.fr (fun p hp => hp) fun h r => K.short (by rw [hc]; rfl) e h _ r) (fun hc e h tk r => leave_on r ch hA.fr (fun p hp => hp) fun h r => K.bad (by rw [hc]; rfl) e h _ r))
    obtain ⟨t2, rfl⟩ := hu
    obtain ⟨t3, rfl⟩ := hv
    refine tupleP S hA.hd (.head _) rfl rfl fun h S => ?_
    refine inOrder_consP (targetP N S (.tail (.tail .head)) fun h tk S => inOrder_consP (targetP N S (.tail .head) fun h tk S => inOrder_nilP ?_))
    have S := S.onLed (led' := led) fun p hp => .tail _ hp
    refine execs_consP (SetCurE (q := p + k) N S .head rfl C (.locI N (.tail .head) rfl) fun led' h tk S C' kp => ?_)
    refine execs_consP (ReturnE S (.locI N (.tail (.tail .head)) rfl) fun v h tk hv S => ?_)
    exact K.ok (.int n) k (by rw [e]; rfl) v led' h tk hv (ch.ret S) C' kp
theorem m_lengthed (S : St (W0 w) a xs ρ led h) (hA : AOK A a 12) (C : Cur led c dc dv l p) (hl : ∀ x ∈ l, x < 256) (hz : l.length ≤ 100000) (hp : p ≤ l.length) (K : RdK w a xs ρ led c dc dv l p (lookL (l.drop p)) R G D O) :
    codeP (W0 w).M A (.call (.ref 209) ⟨[.ref c], []⟩) R ⟨h, G, D, tk, O⟩ := by
  refine fnQ 11 [("self", .ref c)] ["self", "b", "at"] [some (.ref c), none, none] S hA rfl (by kernel_rfl) (.of_eq (by kernel_rfl)) (by kernel_rfl) (by kernel_rfl) fun a' h₁ tk₁ ch N S hA => ?_
  unfold Body
  refine execs_consP (SetTupleP (CallE N S g_read_lengthed rfl (.two (.curDataV N .head rfl C) (.curAt N .head rfl C)) fun vs h tk hv S => ?_))
  obtain ⟨_, _, rfl, rfl, t1, rfl⟩ := hv
  refine callP (c_read_lengthed S hA.le C.oct hl hz hp (fun b k e y u v h tk hu hv S ne => ?_) (fun hc e h tk r => leave_on r ch hA.fr (fun p hp => hp) fun h r => K.short hc e h _ r) (fun hc e h tk r => leave_on r ch hA.fr (fun p hp => hp) fun h r => K.bad hc e h _ r))
  obtain ⟨t3, rfl⟩ := hv
  refine tupleP S hA.hd (.head _) rfl rfl fun h S => ?_
  refine inOrder_consP (targetP N S (.tail .head) fun h tk S => inOrder_consP (targetP N S (.tail (.tail .head)) fun h tk S => inOrder_nilP ?_))
  have S := S.onLed (led' := led) fun p hp => .tail _ hp
  refine execs_consP (SetCurE (q := p + k) N S .head rfl C (.locI N (.tail (.tail .head)) rfl) fun led' h tk S C' kp => ?_)
  refine execs_consP (ReturnE S (.loc N (.tail .head) rfl) fun v h tk hv S => ?_)
  exact K.ok (.byt b) k e v led' h tk (hv ▸ hu) (ch.ret S) C' kp
theorem m_fixed32 (S : St (W0 w) a xs ρ led h) (hA : AOK A a 9) (C : Cur led c dc dv l p) (hl : ∀ x ∈ l, x < 256) (hz : l.length ≤ 100000) (hp : p ≤ l.length) (K : RdK w a xs ρ led c dc dv l p (lookN (l.drop p) 4) R G D O) :
    codeP (W0 w).M A (.call (.ref 195) ⟨[.ref c], []⟩) R ⟨h, G, D, tk, O⟩ := by
  refine fnQ 8 [("self", .ref c)] ["self", "n"] [some (.ref c), none] S hA rfl (by kernel_rfl) (.of_eq (by kernel_rfl)) (by kernel_rfl) (by kernel_rfl) fun a' h₁ tk₁ ch N S hA => ?_
  unfold Body
  refine execs_consP (AssignNameP (CallE N S g_read_fixed32 rfl (.two (.curDataV N .head rfl C) (.curAt N .head rfl C)) fun vs h tk hv S => ?_))
  obtain ⟨_, _, rfl, rfl, t1, rfl⟩ := hv
  refine callP (c_read_fixed32 S hA.le C.oct hl hz (fun hlt t h tk S => ?_) (fun hc e h tk r => leave_on r ch hA.fr (fun p hp => hp) fun h r => K.short (by unfold lookN; rw [if_pos (by rw [List.length_drop]; omega)]) e h _ r) (by omega))
  refine storeL S (.tail .head) N.loc N.kind N.names fun h tk S => ?_
  refine execs_consP (AugCurE (m := 4) N S .head rfl C .int fun led' h tk S C' kp => ?_)
  refine execs_consP (ReturnE S (.loc N (.tail .head) rfl) fun v h tk hv S => ?_)
  subst hv
  exact K.ok (.int (lev ((l.drop p).take 4) : Nat)) 4 (by unfold lookN; rw [if_neg (by rw [List.length_drop]; omega)]) _ led' h tk ⟨t, rfl⟩ (ch.ret S) C' kp
theorem m_fixed64 (S : St (W0 w) a xs ρ led h) (hA : AOK A a 10) (C : Cur led c dc dv l p) (hl : ∀ x ∈ l, x < 256) (hz : l.length ≤ 100000) (hp : p ≤ l.length) (K : RdK w a xs ρ led c dc dv l p (lookN (l.drop p) 8) R G D O) :
    codeP (W0 w).M A (.call (.ref 202) ⟨[.ref c], []⟩) R ⟨h, G, D, tk, O⟩ := by
  refine fnQ 9 [("self", .ref c)] ["self", "n"] [some (.ref c), none] S hA rfl (by kernel_rfl) (.of_eq (by kernel_rfl)) (by kernel_rfl) (by kernel_rfl) fun a' h₁ tk₁ ch N S hA => ?_
  unfold Body
  refine execs_consP (AssignNameP (CallE N S g_read_fixed64 rfl (.two (.curDataV N .head rfl C) (.curAt N .head rfl C)) fun vs h tk hv S => ?_))
  obtain ⟨_, _, rfl, rfl, t1, rfl⟩ := hv
  refine callP (c_read_fixed64 S hA.le C.oct hl hz (fun hlt t h tk S => ?_) (fun hc e h tk r => leave_on r ch hA.fr (fun p hp => hp) fun h r => K.short (by unfold lookN; rw [if_pos (by rw [List.length_drop]; omega)]) e h _ r) (by omega))
  refine storeL S (.tail .head) N.loc N.kind N.names fun h tk S => ?_
  refine execs_consP (AugCurE (m := 8) N S .head rfl C .int fun led' h tk S C' kp => ?_)
  refine execs_consP (ReturnE S (.loc N (.tail .head) rfl) fun v h tk hv S => ?_)
  subst hv
  exact K.ok (.int (lev ((l.drop p).take 8) : Nat)) 8 (by unfold lookN; rw [if_neg (by rw [List.length_drop]; omega)]) _ led' h tk ⟨t, rfl⟩ (ch.ret S) C' kp
theorem m_octet (S : St (W0 w) a xs ρ led h) (hA : AOK A a 9) (C : Cur led c dc dv l p) (hl : ∀ x ∈ l, x < 256) (hz : l.length ≤ 100000) (hp : p ≤ l.length) (K : RdK w a xs ρ led c dc dv l p (lookN (l.drop p) 1) R G D O) :
    codeP (W0 w).M A (.call (.ref 216) ⟨[.ref c], []⟩) R ⟨h, G, D, tk, O⟩ := by
  refine fnQ 8 [("self", .ref c)] ["self", "n"] [some (.ref c), none] S hA rfl (by kernel_rfl) (.of_eq (by kernel_rfl)) (by kernel_rfl) (by kernel_rfl) fun a' h₁ tk₁ ch N S hA => ?_
  unfold Body
  refine execs_consP (IfE S (.ge (.curAt N .head rfl C) (.lenOct N g_len (.curData N .head rfl C) (by omega))) (fun hb h tk S => ?_) (fun hb h tk S => ?_))
  · refine execs_consP (RaiseE x_ShortOctets N hA ch S (.one .str) (fun _ => one_le) (fun _ p => p) (K.short ?_))
    unfold lookN
    rw [if_pos (by rw [List.length_drop]; simp at hb; omega)]
  · refine execs_nilP ?_
    have hlt : p < l.length := by simp at hb; omega
    refine execs_consP (SetE N S (.itemOct (.curData N .head rfl C) (.curAt N .head rfl C) hl (by omega) (by omega) (by omega)) (.tail .head) fun v h tk hv S => ?_)
    rw [Int.toNat_natCast] at hv
    refine execs_consP (AugCurE (m := 1) N S .head rfl C .int fun led' h tk S C' kp => ?_)
    refine execs_consP (ReturnE S (.loc N (.tail .head) rfl) fun v' h tk hv' S => ?_)
    subst hv'
    refine K.ok (.int (l.getD p 0 : Nat)) 1 ?_ _ led' h tk hv (ch.ret S) C' kp
    have e := drop_cons (l := l) (p := p) (i := 0) (by omega)
    rw [List.drop_zero, Nat.add_zero] at e
    unfold lookN
    rw [if_neg (by rw [List.length_drop]; omega), e]
    simp [lev]
theorem m_flag (S : St (W0 w) a xs ρ led h) (hA : AOK A a 9) (C : Cur led c dc dv l p) (hl : ∀ x ∈ l, x < 256) (hz : l.length ≤ 100000) (hp : p ≤ l.length) (K : RdK w a xs ρ led c dc dv l p (lookF (l.drop p)) R G D O) :
    codeP (W0 w).M A (.call (.ref 223) ⟨[.ref c], []⟩) R ⟨h, G, D, tk, O⟩ := by
  refine fnQ 8 [("self", .ref c)] ["self", "n"] [some (.ref c), none] S hA rfl (by kernel_rfl) (.of_eq (by kernel_rfl)) (by kernel_rfl) (by kernel_rfl) fun a' h₁ tk₁ ch N S hA => ?_
  unfold Body
  refine execs_consP (IfE S (.ge (.curAt N .head rfl C) (.lenOct N g_len (.curData N .head rfl C) (by omega))) (fun hb h tk S => ?_) (fun hb h tk S => ?_))
  · refine execs_consP (RaiseE x_ShortOctets N hA ch S (.one .str) (fun _ => one_le) (fun _ p => p) (K.short ?_))
    rw [List.drop_eq_nil_of_le (by simp at hb; omega)]; rfl
  · refine execs_nilP ?_
    have hlt : p < l.length := by simp at hb; omega
    have hx := getD_lt hl p
    have e := drop_cons (l := l) (p := p) (i := 0) (by omega)
    rw [List.drop_zero, Nat.add_zero] at e
    rw [e] at K
    refine execs_consP (SetE N S (.itemOct (.curData N .head rfl C) (.curAt N .head rfl C) hl (by omega) (by omega) (by omega)) (.tail .head) fun v h tk ⟨t, hv⟩ S => ?_)
    subst hv
    rw [Int.toNat_natCast] at S
    generalize l.getD p 0 = x at hx K S
    refine execs_consP (IfE S (.gt (.locI N (.tail .head) rfl) .int) (fun hb h tk S => ?_) (fun hb h tk S => ?_))
    · refine execs_consP (RaiseE x_Corrupt N hA ch S (.one (.fstr (.cons .strc (.cons (.fval (.locI N (.tail .head) rfl) (log2_lt (by omega))) .nil)) (by decide))) (fun _ => one_le) (fun _ p => p) (K.bad ?_))
      show (if 1 < x then Ans.bad else _) = _
      rw [if_pos (by simp at hb; omega)]
    · refine execs_nilP ?_
      refine execs_consP (AugCurE (m := 1) N S .head rfl C .int fun led' h tk S C' kp => ?_)
      refine execs_consP (ReturnE S (.eq (.locI N (.tail .head) rfl) .int) fun v h tk hv S => ?_)
      refine K.ok (.bool (x == 1)) 1 ?_ v led' h tk ?_ (ch.ret S) C' kp
      · show (if 1 < x then Ans.bad else _) = _
        rw [if_neg (by simp at hb; omega)]
      · rw [hv]
        show Value.bool _ = Value.bool _
        congr 1
        rw [Bool.eq_iff_iff]
        simp
        omega
end
end Mine

end
section
set_option maxRecDepth 100000
open PySem PySem.W PySem.Calls PyProof.Rows
open Sem (wp)
set_option Elab.async false
set_option linter.unusedVariables false
namespace Mine
section
variable {W : Wd} {A : Around} {E : Value → Shared → Prop} {a : Act} {xs : List Str} {ρ : List (Option Value)} {led : List (Addr × Obj)} {h : Heap} {G : Array GenState} {D : Drawn} {tk : Nat} {O : OsState} {env : Env}

/-- a method of an own class called -/
theorem MethC {C c dc f : Addr} {o : Expr} {name : Str} {es : List DictEntry} {n : Nat} {apos pos : Pos} {args : List Expr} {P : List Value → Prop} {Q : Value → Shared → Prop} (S : St W a xs ρ led h) (ho : Ev W A env a xs ρ led o (· = .ref c))
    (mx : (c, instObj C dc) ∈ led) (md : (dc, dictOf es n) ∈ led) (MF : MethF W C name f) (hl : getL name es = some none) (ha : EvL W A env a xs ρ led args P)
    (k : ∀ vs h tk, P vs → St W a xs ρ led h → codeP W.M A (.call (.ref f) ⟨.ref c :: vs, []⟩) (fun r s' => match r with | .ok (.ret v) => Q v s' | .ok _ => False | .error e => E e s') ⟨h, G, D, tk, O⟩)
    (pl : Sem Bool)
    (he : eval (.Call (.Attribute o name apos) args [] pos) env = (do
      let ov ← eval o env
      standAt apos.atName
      let (f, first) ← holding [ov] (getMethod ov name pl)
      callWith pos f first (backTo pos (starEach args env)) (backToKw pos (keywordEach [] env))) := by rfl)
    (hp : (backTo pos (starEach args env)).any (·.1) = false := by rfl) : wpP W.M A (eval (.Call (.Attribute o name apos) args [] pos) env) Q E ⟨h, G, D, tk, O⟩ := by
  refine MethodP (f := .ref f) S ho (fun {h tk pl Q} S q => ?_) (show keepIn W.K (.ref f) = true from MF.keep) (fun h tk S => ?_) pl he hp
  · obtain ⟨m, F, _⟩ := S.vars
    exact up (method_inst F S.ok.X ⟨S.get mx, rfl, rfl, S.get md⟩ MF.plain MF.find MF.isfn hl (q _))
  · exact ha.go S fun vs h tk p S => ⟨S.X, callP (k vs h tk p S)⟩
theorem EvL.none' : EvL W A env a xs ρ led [] (fun vs => vs = []) := .nil
theorem Ev.meth {C c dc f : Addr} {o : Expr} {name : Str} {es : List DictEntry} {n : Nat} {apos pos : Pos} {args : List Expr} {P : List Value → Prop} {T : Value → Prop} (ho : Ev W A env a xs ρ led o (· = .ref c))
    (mx : (c, instObj C dc) ∈ led) (md : (dc, dictOf es n) ∈ led) (MF : MethF W C name f) (hl : getL name es = some Option.none) (ha : EvL W A env a xs ρ led args P)
    (k : ∀ {h vs G D tk O} {E Q : Value → Shared → Prop}, St W a xs ρ led h → P vs → (∀ v h' tk', T v → St W a xs ρ led h' → Q v ⟨h', G, D, tk', O⟩) → codeP W.M A (.call (.ref f) ⟨.ref c :: vs, []⟩) (fun r s' => match r with | .ok (.ret v) => Q v s' | .ok _ => False | .error e => E e s') ⟨h, G, D, tk, O⟩)
    (pl : Sem Bool)
    (he : eval (.Call (.Attribute o name apos) args [] pos) env = (do
      let ov ← eval o env
      standAt apos.atName
      let (f, first) ← holding [ov] (getMethod ov name pl)
      callWith pos f first (backTo pos (starEach args env)) (backToKw pos (keywordEach [] env))) := by rfl)
    (hp : (backTo pos (starEach args env)).any (·.1) = false := by rfl) : Ev W A env a xs ρ led (.Call (.Attribute o name apos) args [] pos) T :=
  ⟨fun S q => MethC S ho mx md MF hl ha (fun vs h tk p S => k S p q) pl he hp⟩

theorem ExtendBA {o e : Expr} {ap pos sp : Pos} {x : Addr} {l : List Nat} {P : List Nat → Prop} {Q : Flow → Shared → Prop} (S : St W a xs ρ led h) (ho : Ev W A env a xs ρ led o (· = .ref x)) (m : (x, baO (ba l)) ∈ led)
    (he : ∀ {h tk} {Q' : Value → Shared → Prop}, St W a xs ρ led h → (∀ l' t h tk, P l' → St W a xs ρ led h → Q' (.bytes (ba l') t) ⟨h, G, D, tk, O⟩) → wpP W.M A (eval e env) Q' E ⟨h, G, D, tk, O⟩) (hz : ∀ l', P l' → (l ++ l').length ≤ 1000000)
    (q : ∀ l' h' tk', P l' → St W a xs ρ (updL x (baO (ba (l ++ l'))) led) h' → Q .next ⟨h', G, D, tk', O⟩) (pl : Sem Bool)
    (hev : eval (.Call (.Attribute o "extend" ap) [e] [] pos) env = (do
      let ov ← eval o env
      standAt ap.atName
      let (f, first) ← holding [ov] (getMethod ov "extend" pl)
      callWith pos f first (backTo pos (starEach [e] env)) (backToKw pos (keywordEach [] env))) := by rfl)
    (hi : interactive env = false := by rfl) (hs : swapsWith (.Call (.Attribute o "extend" ap) [e] [] pos) none sp.line env = pure false := by rfl) (hp : starEach [e] env = [(false, eval e env)] := by rfl) :
    wpP W.M A (exec (.Expr (.Call (.Attribute o "extend" ap) [e] [] pos) sp) env) Q E ⟨h, G, D, tk, O⟩ := by
  refine ExprP (MethodP S ho (fun S q => method_ba S m BA.slot_extend BA.type_extend q) rfl (fun h tk S => ?_) pl hev (by rw [hp]; rfl)) hi hs
  refine spliced_consP (he S fun l' t h tk pl S => spliced_nilP ⟨S.X, ?_⟩) hp
  exact extend_ba S m (hz l' pl) fun h' S' => q l' h' _ pl S'
theorem truthyI {i : Int} {t : Tok} {s : Shared} {Q : Bool → Shared → Prop} (h : Q (i != 0) s) : wpP W.M A (truthy (.int i t)) Q E s := up (P.truthy_int h)
theorem EvB.locI {x : Str} {pos : Pos} {n : Int} {t : Tok} {i : Nat} (N : EnvOK env a xs) (hx : At xs i x) (hv : ρ[i]? = some (some (.int n t))) : EvB W A env a xs ρ led (.Name x pos) (n != 0) :=
  ⟨fun S q => TestP (NameL S hx hv N.loc N.kind N.names (truthyI (q _ _ S)))⟩
theorem callFresh {e : Expr} {k : Nat} {pos : Pos} {T : Value → Prop} {Q : Flow → Shared → Prop} (S : St W a xs ρ led h) (he : Ev W A env a xs ρ led e T) (hT : ∀ v, T v → ∀ a, v ≠ .ref a) (q : ∀ h' tk', St W a xs ρ led h' → Q .next ⟨h', G, D, tk', O⟩)
    (hi : interactive env = false := by rfl) (hs : swapsWith e none pos.line env = pure false := by rfl) : wpP W.M A (exec (.Expr e pos) env) Q E ⟨h, G, D, tk, O⟩ :=
  ExprP (he.go S fun v h' tk' p S' => by
    have := hT v p
    cases v with
    | ref a => exact absurd rfl (this a)
    | _ => exact q _ _ S') hi hs
end

/-- how a write ends -/
structure WrK (w : World) (a : Act) (xs : List Str) (ρ : List (Option Value)) (led : List (Addr × Obj)) (c dc b : Addr) (l : List Nat) (oo : Option (List Nat)) (R : Result → Shared → Prop) (G : Array GenState) (D : Drawn) (O : OsState) : Prop where
  ok : ∀ o, oo = some o → ∀ led' h' tk', St (W0 w) a xs ρ led' h' → Snk led' c dc b (l ++ o) → (∀ r ∈ led, r.1 ≠ b → r ∈ led') → R (.ok (.ret .none)) ⟨h', G, D, tk', O⟩
  bad : oo = none → ∀ e h' tk', Er (W0 w) a xs ρ led e 73 h' → R (.error (.ref e)) ⟨h', G, D, tk', O⟩

section
variable {w : World} {A : Around} {E : Value → Shared → Prop} {a : Act} {xs : List Str} {ρ : List (Option Value)} {led : List (Addr × Obj)} {h : Heap} {G : Array GenState} {D : Drawn} {tk : Nat} {O : OsState} {R : Result → Shared → Prop} {c dc b : Addr} {dv : Value} {l : List Nat} {p : Nat} {env : Env}

theorem Ev.left {o : Expr} {apos pos : Pos} {n : Nat} (hA : AOK A a 8) (ho : Ev (W0 w) A env a xs ρ led o (· = .ref c)) (C : Cur led c dc dv l p) (hz : l.length ≤ 100000)
    (pl : Sem Bool)
    (he : eval (.Call (.Attribute o "left" apos) [] [] pos) env = (do
      let ov ← eval o env
      standAt apos.atName
      let (f, first) ← holding [ov] (getMethod ov "left" pl)
      callWith pos f first (backTo pos (starEach [] env)) (backToKw pos (keywordEach [] env))) := by rfl) : Ev (W0 w) A env a xs ρ led (.Call (.Attribute o "left" apos) [] [] pos) (IsI ((l.length : Int) - p)) := by
  obtain ⟨es, n, t, m, h1, h2, h3, h4⟩ := C.dct
  refine Ev.meth ho C.inst m me_Cursor_left (h4.none (by decide)) .nil (fun S pv q => ?_) pl he
  subst pv
  exact m_left S hA.le C hz fun t h tk S => q _ h tk ⟨t, rfl⟩ S
theorem m_take {n : Int} {t : Tok} (S : St (W0 w) a xs ρ led h) (hA : AOK A a 10) (C : Cur led c dc dv l p) (hl : ∀ x ∈ l, x < 256) (hz : l.length ≤ 100000) (hp : p ≤ l.length) (hn : n.natAbs < 2 ^ 200) (K : RdK w a xs ρ led c dc dv l p (lookT n (l.drop p)) R G D O) :
    codeP (W0 w).M A (.call (.ref 230) ⟨[.ref c, .int n t], []⟩) R ⟨h, G, D, tk, O⟩ := by
  refine fnQ 9 [("self", .ref c), ("n", .int n t)] ["self", "n", "b"] [some (.ref c), some (.int n t), none] S hA rfl (by kernel_rfl) (.of_eq (by kernel_rfl)) (by kernel_rfl) (by kernel_rfl) fun a' h₁ tk₁ ch N S hA => ?_
  unfold Body
  refine execs_consP (IfE S (.bop (.or (.lt (.locI N (.tail .head) rfl) .int) fun _ => .or (.gt (.locI N (.tail .head) rfl) (.left (n := 0) hA.le (.loc N .head rfl) C hz _ rfl)) fun _ => .nilOr)) (fun hb h tk S => ?_) (fun hb h tk S => ?_))
  · refine execs_consP (RaiseE x_ShortOctets N hA ch S (.one (.fstr (.cons (.fval (.locI N (.tail .head) rfl) (log2_lt hn)) (.cons .strc (.cons (.fval (.left (n := 0) hA.le (.loc N .head rfl) C hz _ rfl) (log2_lt (by omega))) (.cons .strc .nil)))) (by decide))) (fun _ => one_le) (fun _ p => p) (K.short ?_))
    unfold lookT
    rw [if_pos (by rw [List.length_drop]; simp at hb; omega)]
  · refine execs_nilP ?_
    have hb' : 0 ≤ n ∧ n ≤ (l.length : Int) - p := by simp at hb; omega
    obtain ⟨k, rfl⟩ := Int.eq_ofNat_of_zero_le hb'.1
    refine execs_consP (SetE N S (.bytesCut N g_bytes (.curData N .head rfl C) (by omega) ⟨_, rfl, .curAt N .head rfl C⟩ ⟨_, rfl, .add (.curAt N .head rfl C) (.locI N (.tail .head) rfl)⟩) (.tail (.tail .head)) fun v h tk hv S => ?_)
    have e1 : (p : Int) + (k : Int) = ((p + k : Nat) : Int) := by omega
    rw [e1, cut_two _ _ _ (by omega) (by omega), Nat.add_sub_cancel_left] at hv
    refine execs_consP (AugCurE (m := k) N S .head rfl C (.locI N (.tail .head) rfl) fun led' h tk S C' kp => ?_)
    refine execs_consP (ReturnE S (.loc N (.tail (.tail .head)) rfl) fun v' h tk hv' S => ?_)
    subst hv'
    refine K.ok (.byt ((l.drop p).take k)) k ?_ _ led' h tk hv (ch.ret S) C' kp
    unfold lookT
    rw [if_neg (by rw [List.length_drop]; omega), Int.toNat_natCast]
theorem m_cdone (S : St (W0 w) a xs ρ led h) (hA : AOK A a 10) (C : Cur led c dc dv l p) (hz : l.length ≤ 100000) (hp : p ≤ l.length)
    (kok : p = l.length → ∀ h' tk', St (W0 w) a xs ρ led h' → R (.ok (.ret .none)) ⟨h', G, D, tk', O⟩)
    (kb : p < l.length → ∀ e h' tk', Er (W0 w) a xs ρ led e 49 h' → R (.error (.ref e)) ⟨h', G, D, tk', O⟩) :
    codeP (W0 w).M A (.call (.ref 237) ⟨[.ref c], []⟩) R ⟨h, G, D, tk, O⟩ := by
  refine fnQ 9 [("self", .ref c)] ["self"] [some (.ref c)] S hA rfl (by kernel_rfl) (.of_eq (by kernel_rfl)) (by kernel_rfl) (by kernel_rfl) fun a' h₁ tk₁ ch N S hA => ?_
  unfold Body
  refine execs_consP (IfE S (.lt (.curAt N .head rfl C) (.lenOct N g_len (.curData N .head rfl C) (by omega))) (fun hb h tk S => ?_) (fun hb h tk S => ?_))
  · refine execs_consP (RaiseE x_Corrupt N hA ch S (.one (.fstr (.cons (.fval (.left (n := 0) hA.le (.loc N .head rfl) C hz _ rfl) (log2_lt (by omega))) (.cons .strc .nil)) (by decide))) (fun _ => one_le) (fun _ p => p) (kb ?_))
    simp at hb; omega
  · refine execs_nilP (execs_nilP ?_)
    exact kok (by simp at hb; omega) h tk (ch.ret S)

/-! the sink -/
theorem Snk.upd {o : List Nat} (S : St (W0 w) a xs ρ led h) (C : Snk led c dc b l) : Snk (updL b (baO (ba (l ++ o))) led) c dc b (l ++ o) := by
  obtain ⟨es, n, m, h1, h2⟩ := C.dct
  refine ⟨updL_ne C.inst (S.ne C.inst C.oct (ne_of_cls (show (Value.ref 317 : Value) ≠ .type "bytearray" by decide))), ⟨es, n, updL_ne m (S.ne m C.oct (ne_of_cls (show (Value.type "dict" : Value) ≠ .type "bytearray" by decide))), h1, h2⟩, updL_self C.oct⟩
theorem m_octet_s {n : Int} {t : Tok} (S : St (W0 w) a xs ρ led h) (hA : AOK A a 9) (C : Snk led c dc b l) (hz : l.length ≤ 100000) (hn : n.natAbs < 2 ^ 200) (K : WrK w a xs ρ led c dc b l (encN n 1) R G D O) :
    codeP (W0 w).M A (.call (.ref 293) ⟨[.ref c, .int n t], []⟩) R ⟨h, G, D, tk, O⟩ := by
  refine fnQ 8 [("self", .ref c), ("n", .int n t)] ["self", "n"] [some (.ref c), some (.int n t)] S hA rfl (by kernel_rfl) (.of_eq (by kernel_rfl)) (by kernel_rfl) (by kernel_rfl) fun a' h₁ tk₁ ch N S hA => ?_
  unfold Body
  refine execs_consP (IfE S (.bop (.or (.lt (.locI N (.tail .head) rfl) .int) fun _ => .or (.gt (.locI N (.tail .head) rfl) .int) fun _ => .nilOr)) (fun hb h tk S => ?_) (fun hb h tk S => ?_))
  · refine execs_consP (RaiseE x_BadOption N hA ch S (.one (.fstr (.cons (.fval (.locI N (.tail .head) rfl) (log2_lt hn)) (.cons .strc .nil)) (by decide))) (fun _ => one_le) (fun _ p => p) (K.bad ?_))
    unfold encN
    rw [if_neg (by simp at hb; omega)]
  · refine execs_nilP ?_
    have hb' : 0 ≤ n ∧ n < 256 := by simp at hb; omega
    refine execs_consP (AppendBA S (.snkParts N .head rfl C) C.oct (.locI N (.tail .head) rfl) hb'.1 hb'.2 (by omega) (fun h tk S' => ?_) _ rfl)
    refine execs_nilP (K.ok [n.toNat] ?_ _ h tk (ch.ret S') (C.upd S) fun r hr ne => updL_ne hr ne)
    unfold encN
    rw [if_pos ⟨hb'.1, by omega⟩]
    obtain ⟨k, rfl⟩ := Int.eq_ofNat_of_zero_le hb'.1
    rw [Int.toNat_natCast, le_succ, le_zero, Nat.mod_eq_of_lt (by omega)]
theorem m_flag_i {n : Int} {t : Tok} (S : St (W0 w) a xs ρ led h) (hA : AOK A a 9) (C : Snk led c dc b l) (hz : l.length ≤ 100000) (K : WrK w a xs ρ led c dc b l (enc 2 (.int n)) R G D O) :
    codeP (W0 w).M A (.call (.ref 300) ⟨[.ref c, .int n t], []⟩) R ⟨h, G, D, tk, O⟩ := by
  refine fnQ 8 [("self", .ref c), ("b", .int n t)] ["self", "b"] [some (.ref c), some (.int n t)] S hA rfl (by kernel_rfl) (.of_eq (by kernel_rfl)) (by kernel_rfl) (by kernel_rfl) fun a' h₁ tk₁ ch N S hA => ?_
  unfold Body
  refine execs_consP (IfE S (.locI N (.tail .head) rfl) (fun hb h tk S => ?_) (fun hb h tk S => ?_))
  · refine execs_consP (AppendBA S (.snkParts N .head rfl C) C.oct .int (by decide) (by decide) (by omega) (fun h tk S' => ?_) _ rfl)
    refine execs_nilP (execs_nilP (K.ok [1] ?_ _ h tk (ch.ret S') (C.upd S) fun r hr ne => updL_ne hr ne))
    show some [if n = 0 then 0 else 1] = _
    rw [if_neg (by simpa using hb)]
  · refine execs_consP (AppendBA S (.snkParts N .head rfl C) C.oct .int (by decide) (by decide) (by omega) (fun h tk S' => ?_) _ rfl)
    refine execs_nilP (execs_nilP (K.ok [0] ?_ _ h tk (ch.ret S') (C.upd S) fun r hr ne => updL_ne hr ne))
    show some [if n = 0 then 0 else 1] = _
    rw [if_pos (by simpa using hb)]
theorem m_flag_b {n : Bool} (S : St (W0 w) a xs ρ led h) (hA : AOK A a 9) (C : Snk led c dc b l) (hz : l.length ≤ 100000) (K : WrK w a xs ρ led c dc b l (enc 2 (.bool n)) R G D O) :
    codeP (W0 w).M A (.call (.ref 300) ⟨[.ref c, .bool n], []⟩) R ⟨h, G, D, tk, O⟩ := by
  refine fnQ 8 [("self", .ref c), ("b", .bool n)] ["self", "b"] [some (.ref c), some (.bool n)] S hA rfl (by kernel_rfl) (.of_eq (by kernel_rfl)) (by kernel_rfl) (by kernel_rfl) fun a' h₁ tk₁ ch N S hA => ?_
  unfold Body
  refine execs_consP (IfE S (.boolLoc N (.tail .head) rfl) (fun hb h tk S => ?_) (fun hb h tk S => ?_))
  · refine execs_consP (AppendBA S (.snkParts N .head rfl C) C.oct .int (by decide) (by decide) (by omega) (fun h tk S' => ?_) _ rfl)
    refine execs_nilP (execs_nilP (K.ok [1] ?_ _ h tk (ch.ret S') (C.upd S) fun r hr ne => updL_ne hr ne))
    subst hb; rfl
  · refine execs_consP (AppendBA S (.snkParts N .head rfl C) C.oct .int (by decide) (by decide) (by omega) (fun h tk S' => ?_) _ rfl)
    refine execs_nilP (execs_nilP (K.ok [0] ?_ _ h tk (ch.ret S') (C.upd S) fun r hr ne => updL_ne hr ne))
    subst hb; rfl
theorem m_raw {v : Value} {o : List Nat} (S : St (W0 w) a xs ρ led h) (hA : AOK A a 9) (C : Snk led c dc b l) (hz : l.length ≤ 100000) (hv : IsB o v) (ho : o.length ≤ 2000) (K : WrK w a xs ρ led c dc b l (some o) R G D O) :
    codeP (W0 w).M A (.call (.ref 307) ⟨[.ref c, v], []⟩) R ⟨h, G, D, tk, O⟩ := by
  refine fnQ 8 [("self", .ref c), ("b", v)] ["self", "b"] [some (.ref c), some v] S hA rfl (by kernel_rfl) (.of_eq (by kernel_rfl)) (by kernel_rfl) (by kernel_rfl) fun a' h₁ tk₁ ch N S hA => ?_
  unfold Body
  refine execs_consP (ExtendBA (P := (· = o)) S (.snkParts N .head rfl C) C.oct (fun S q => (Ev.loc N (.tail .head) rfl).go S fun u h tk e S => by obtain ⟨t, rfl⟩ := hv; subst e; exact q o t h tk rfl S) (fun l' e => by subst e; rw [List.length_append]; omega) (fun l' h tk e S' => ?_) _ rfl)
  subst e
  exact execs_nilP (K.ok _ rfl _ h tk (ch.ret S') (C.upd S) fun r hr ne => updL_ne hr ne)
theorem m_varint_s {n : Int} {t : Tok} (S : St (W0 w) a xs ρ led h) (hA : AOK A a 10) (C : Snk led c dc b l) (hz : l.length ≤ 100000) (hn : n.natAbs < 2 ^ 200) (K : WrK w a xs ρ led c dc b l (encV n) R G D O) :
    codeP (W0 w).M A (.call (.ref 265) ⟨[.ref c, .int n t], []⟩) R ⟨h, G, D, tk, O⟩ := by
  refine fnQ 9 [("self", .ref c), ("n", .int n t)] ["self", "n"] [some (.ref c), some (.int n t)] S hA rfl (by kernel_rfl) (.of_eq (by kernel_rfl)) (by kernel_rfl) (by kernel_rfl) fun a' h₁ tk₁ ch N S hA => ?_
  unfold Body
  refine execs_consP (IfE S (.bop (.and (.ge (.locI N (.tail .head) rfl) .int) fun _ => .and (.lt (.locI N (.tail .head) rfl) .int) fun _ => .nilAnd)) (fun hb h tk S => ?_) (fun hb h tk S => ?_))
  · have hb' : 0 ≤ n ∧ n < 128 := by simp at hb; omega
    refine execs_consP (AppendBA S (.snkParts N .head rfl C) C.oct (.locI N (.tail .head) rfl) hb'.1 (by omega) (by omega) (fun h tk S' => ?_) _ rfl)
    refine execs_nilP (execs_nilP (K.ok [n.toNat] ?_ _ h tk (ch.ret S') (C.upd S) fun r hr ne => updL_ne hr ne))
    unfold encV
    rw [if_pos ⟨hb'.1, by omega⟩, groups_small (by omega)]
  · refine execs_consP (ExtendBA (P := fun o => 0 ≤ n ∧ n ≤ 18446744073709551615 ∧ o = groups n.toNat) S (.snkParts N .head rfl C) C.oct (fun S q => CallE N S g_put_varint rfl (.one (.loc N (.tail .head) rfl)) fun vs h tk hv S => ?_) (fun l' e => ?_) (fun l' h tk e S' => ?_) _ rfl)
    · obtain ⟨_, rfl, rfl⟩ := hv
      refine callP (c_put_varint S hA.le hn (fun h0 h1 t h tk S => q _ t h tk ⟨h0, h1, rfl⟩ S) fun hc e h tk r => leave_on r ch hA.fr (fun p hp => hp) fun h r => K.bad ?_ e h _ r)
      unfold encV
      rw [if_neg (by omega)]
    · obtain ⟨h0, h1, rfl⟩ := e
      have := groups_length_le n.toNat 10 (by decide) (Nat.lt_of_lt_of_le (show n.toNat < 2 ^ 64 by omega) (by decide))
      rw [List.length_append]; omega
    · obtain ⟨h0, h1, rfl⟩ := e
      refine execs_nilP (execs_nilP (K.ok _ ?_ _ h tk (ch.ret S') (C.upd S) fun r hr ne => updL_ne hr ne))
      unfold encV
      rw [if_pos ⟨h0, by omega⟩]
theorem m_fixed32_s {n : Int} {t : Tok} (S : St (W0 w) a xs ρ led h) (hA : AOK A a 10) (C : Snk led c dc b l) (hz : l.length ≤ 100000) (hn : n.natAbs < 2 ^ 200) (K : WrK w a xs ρ led c dc b l (encN n 4) R G D O) :
    codeP (W0 w).M A (.call (.ref 272) ⟨[.ref c, .int n t], []⟩) R ⟨h, G, D, tk, O⟩ := by
  refine fnQ 9 [("self", .ref c), ("n", .int n t)] ["self", "n"] [some (.ref c), some (.int n t)] S hA rfl (by kernel_rfl) (.of_eq (by kernel_rfl)) (by kernel_rfl) (by kernel_rfl) fun a' h₁ tk₁ ch N S hA => ?_
  unfold Body
  refine execs_consP (ExtendBA (P := fun o => 0 ≤ n ∧ n ≤ 4294967295 ∧ o = le 4 n.toNat) S (.snkParts N .head rfl C) C.oct (fun S q => CallE N S g_put_fixed32 rfl (.one (.loc N (.tail .head) rfl)) fun vs h tk hv S => ?_) (fun l' e => ?_) (fun l' h tk e S' => ?_) _ rfl)
  · obtain ⟨_, rfl, rfl⟩ := hv
    refine callP (c_put_fixed32 S hA.le hn (fun h0 h1 t h tk S => q _ t h tk ⟨h0, h1, rfl⟩ S) fun hc e h tk r => leave_on r ch hA.fr (fun p hp => hp) fun h r => K.bad ?_ e h _ r)
    unfold encN
    rw [if_neg (by omega)]
  · obtain ⟨h0, h1, rfl⟩ := e
    rw [List.length_append, le_length]; omega
  · obtain ⟨h0, h1, rfl⟩ := e
    refine execs_nilP (K.ok _ ?_ _ h tk (ch.ret S') (C.upd S) fun r hr ne => updL_ne hr ne)
    unfold encN
    rw [if_pos ⟨h0, by omega⟩]
theorem m_fixed64_s {n : Int} {t : Tok} (S : St (W0 w) a xs ρ led h) (hA : AOK A a 11) (C : Snk led c dc b l) (hz : l.length ≤ 100000) (hn : n.natAbs < 2 ^ 200) (K : WrK w a xs ρ led c dc b l (encN n 8) R G D O) :
    codeP (W0 w).M A (.call (.ref 279) ⟨[.ref c, .int n t], []⟩) R ⟨h, G, D, tk, O⟩ := by
  refine fnQ 10 [("self", .ref c), ("n", .int n t)] ["self", "n"] [some (.ref c), some (.int n t)] S hA rfl (by kernel_rfl) (.of_eq (by kernel_rfl)) (by kernel_rfl) (by kernel_rfl) fun a' h₁ tk₁ ch N S hA => ?_
  unfold Body
  refine execs_consP (ExtendBA (P := fun o => 0 ≤ n ∧ n ≤ 18446744073709551615 ∧ o = le 8 n.toNat) S (.snkParts N .head rfl C) C.oct (fun S q => CallE N S g_put_fixed64 rfl (.one (.loc N (.tail .head) rfl)) fun vs h tk hv S => ?_) (fun l' e => ?_) (fun l' h tk e S' => ?_) _ rfl)
  · obtain ⟨_, rfl, rfl⟩ := hv
    refine callP (c_put_fixed64 S hA.le hn (fun h0 h1 t h tk S => q _ t h tk ⟨h0, h1, rfl⟩ S) fun hc e h tk r => leave_on r ch hA.fr (fun p hp => hp) fun h r => K.bad ?_ e h _ r)
    unfold encN
    rw [if_neg (by omega)]
  · obtain ⟨h0, h1, rfl⟩ := e
    rw [List.length_append, le_length]; omega
  · obtain ⟨h0, h1, rfl⟩ := e
    refine execs_nilP (K.ok _ ?_ _ h tk (ch.ret S') (C.upd S) fun r hr ne => updL_ne hr ne)
    unfold encN
    rw [if_pos ⟨h0, by omega⟩]
theorem m_lengthed_s {v : Value} {o : List Nat} (S : St (W0 w) a xs ρ led h) (hA : AOK A a 11) (C : Snk led c dc b l) (hz : l.length ≤ 100000) (hv : IsB o v) (ho : o.length ≤ 2000) (K : WrK w a xs ρ led c dc b l (some (groups o.length ++ o)) R G D O) :
    codeP (W0 w).M A (.call (.ref 286) ⟨[.ref c, v], []⟩) R ⟨h, G, D, tk, O⟩ := by
  refine fnQ 10 [("self", .ref c), ("b", v)] ["self", "b"] [some (.ref c), some v] S hA rfl (by kernel_rfl) (.of_eq (by kernel_rfl)) (by kernel_rfl) (by kernel_rfl) fun a' h₁ tk₁ ch N S hA => ?_
  unfold Body
  have hg := groups_length_le o.length 5 (by decide) (by omega)
  refine execs_consP (ExtendBA (P := (· = groups o.length)) S (.snkParts N .head rfl C) C.oct (fun S q => CallE N S g_put_varint32 rfl (.one (.lenOct N g_len ((Ev.loc N (.tail .head) rfl).mono fun u e => e ▸ hv.oct) (by omega))) fun vs h tk hv S => ?_) (fun l' e => by subst e; rw [List.length_append]; omega) (fun l' h tk e S' => ?_) _ rfl)
  · obtain ⟨_, rfl, t, rfl⟩ := hv
    refine callP (c_put_varint32 S hA.le (by omega) (fun h0 h1 t h tk S => q _ t h tk (by rw [Int.toNat_natCast]) S) fun hc e h tk r => by omega)
  subst e
  have C' := C.upd (o := groups o.length) S
  refine execs_consP (ExtendBA (P := (· = o)) S' (.snkParts N .head rfl C') C'.oct (fun S q => (Ev.loc N (.tail .head) rfl).go S fun u h tk e S => by obtain ⟨t, rfl⟩ := hv; subst e; exact q o t h tk rfl S) (fun l' e => by subst e; rw [List.length_append, List.length_append]; omega) (fun l' h tk e S'' => ?_) _ rfl)
  subst e
  have C'' := C'.upd (o := l') S'
  rw [List.append_assoc] at C'' S''
  exact execs_nilP (K.ok _ rfl _ h tk (ch.ret S'') C'' fun r hr ne => updL_ne (updL_ne hr ne) ne)
theorem m_sdone (S : St (W0 w) a xs ρ led h) (hA : AOK A a 8) (C : Snk led c dc b l) (hz : l.length ≤ 100000)
    (k : ∀ t h' tk', St (W0 w) a xs ρ led h' → R (.ok (.ret (.bytes (ba l) t))) ⟨h', G, D, tk', O⟩) : codeP (W0 w).M A (.call (.ref 314) ⟨[.ref c], []⟩) R ⟨h, G, D, tk, O⟩ := by
  refine fnQ 7 [("self", .ref c)] ["self"] [some (.ref c)] S hA rfl (by kernel_rfl) (.of_eq (by kernel_rfl)) (by kernel_rfl) (by kernel_rfl) fun a' h₁ tk₁ ch N S hA => ?_
  unfold Body
  refine execs_consP (ReturnP (CallE N S g_bytes rfl (.one (.snkParts N .head rfl C)) fun vs h tk hv S => ?_))
  obtain ⟨_, rfl, rfl⟩ := hv
  exact up (bytes_oct S (.inr ⟨b, rfl, C.oct⟩) (by omega) fun t tk => k t h tk (ch.ret S))
end
end Mine

end
section
set_option maxRecDepth 100000
open PySem PySem.W PySem.Calls PyProof.Rows
open Sem (wp)
set_option Elab.async false
set_option linter.unusedVariables false
namespace Mine
theorem AOK.make {A : Around} {a : Act} {n : Nat} {C : Addr} {rest : List Value} (h : AOK A a (n + 1)) : AOK (A.under (.builtin "type.__call__" ⟨.ref C :: rest, []⟩)) a n :=
  ⟨by show A.frames = some a.envs; exact h.fr, h.hd, by have := h.dp; show A.depth + 1 + n ≤ 900; omega, by have := h.un; show A.units + 1 + 20 * n ≤ 9000; omega⟩
section
variable {w : World} {A : Around} {E : Value → Shared → Prop} {a : Act} {xs : List Str} {ρ : List (Option Value)} {led : List (Addr × Obj)} {h : Heap} {G : Array GenState} {D : Drawn} {tk : Nat} {O : OsState} {R : Result → Shared → Prop} {c dc b : Addr} {dv : Value} {l : List Nat} {p : Nat} {env : Env}

/-- an attribute set, the object's dict told by what it holds -/
theorem SetAttrE {C x dx : Addr} {name : Str} {es : List DictEntry} {n : Nat} {v : Value} {value : Expr} {np ap pos : Pos} {self : Str} {i : Nat} {Q : Flow → Shared → Prop} (N : EnvOK env a xs) (S : St (W0 w) a xs ρ led h) (hx : At xs i self) (hv : ρ[i]? = some (some (.ref x)))
    (mx : (x, instObj C dx) ∈ led) (md : (dx, dictOf es n) ∈ led) (AF : AttrF (W0 w) C name) (hl : (getL name es).isSome = true) (hz : es.length < 1000) (he : Ev (W0 w) A env a xs ρ led value (· = v))
    (k : ∀ t h' tk', St (W0 w) a xs ρ (updL dx (dictOf (putL name (PyData.keyHash (W0 w).w.params name) (.str name t) v es) (putN name es n)) led) h' → Q .next ⟨h', G, D, tk', O⟩)
    (hs : swapsWithSole [.Attribute (.Name self np) name ap] value pos.line env = pure false := by rfl) (hz' : swappedStores [.Attribute (.Name self np) name ap] value env = pure none := by rfl) :
    wpP (W0 w).M A (exec (.Assign [.Attribute (.Name self np) name ap] value pos) env) Q E ⟨h, G, D, tk, O⟩ :=
  AssignAttrP (he.go S fun v h tk hv' S => (Ev.loc N hx hv).go S fun u h tk hu S => by subst hu; subst hv'; exact setAttrP S mx md AF hl hz k) hs hz'

theorem cur_facts {es : List DictEntry} {n : Nat} {t1 t2 t3 : Tok} {h1 h2 : Int} (S : St (W0 w) a xs ρ led h) (mx : (c, instObj 240 dc) ∈ led) (md : (dc, dictOf [] 0) ∈ led) (o : Oct led dv l) :
    Cur (updL dc (dictOf (putL "at" h2 (.str "at" t2) (.int p t3) (putL "data" h1 (.str "data" t1) dv [])) n) (updL dc (dictOf (putL "data" h1 (.str "data" t1) dv []) 1) led)) c dc dv l p := by
  have n1 := S.ne mx md (ne_of_cls (show (Value.ref 240 : Value) ≠ .type "dict" by decide))
  refine ⟨updL_ne (updL_ne mx n1) n1, ⟨_, _, t3, updL_self (updL_self md), getL_put_ne (by decide) getL_put_self, getL_put_self, ?_, ?_⟩, ?_⟩
  · have := putL_length "at" h2 (.str "at" t2) (.int p t3) (putL "data" h1 (.str "data" t1) dv [])
    have := putL_length "data" h1 (.str "data" t1) dv []
    simp only [List.length_nil] at this
    omega
  · exact KeysIn.put (by simp) (KeysIn.put (by simp) fun e he => by cases he)
  · refine o.imp id fun ⟨y, e, my⟩ => ⟨y, e, ?_⟩
    have n2 := S.ne my md (ne_of_cls (show (Value.type "bytearray" : Value) ≠ .type "dict" by decide))
    exact updL_ne (updL_ne my n2) n2
theorem at_none {h1 : Int} {t1 : Tok} : (getL "at" (putL "data" h1 (.str "data" t1) dv [])).isSome = true := by
  have k : KeysIn ["data"] (putL "data" h1 (.str "data" t1) dv []) := KeysIn.put (by simp) fun e he => by cases he
  rw [k.none (by decide)]; rfl

theorem c_cinit2 {t : Tok} (S : St (W0 w) a xs ρ led h) (hA : AOK A a 9) (mx : (c, instObj 240 dc) ∈ led) (md : (dc, dictOf [] 0) ∈ led) (o : Oct led dv l) (hz : l.length ≤ 100000) (hp : p ≤ l.length)
    (k : ∀ led' h' tk', St (W0 w) a xs ρ led' h' → Cur led' c dc dv l p → (∀ r ∈ led, r.1 ≠ dc → r ∈ led') → R (.ok (.ret .none)) ⟨h', G, D, tk', O⟩) :
    codeP (W0 w).M A (.call (.ref 174) ⟨[.ref c, dv, .int p t], []⟩) R ⟨h, G, D, tk, O⟩ := by
  obtain ⟨oT, t0, nn, hT, hd⟩ : ∃ oT t nn, (W0 w).K.lookup 167 = some oT ∧ oT.data = .seq #[Value.int 0 t] nn := ⟨_, _, _, rfl, rfl⟩
  refine fnQ 8 [("self", .ref c), ("data", dv), ("at", .int p t)] ["self", "data", "at"] [some (.ref c), some dv, some (.int p t)] S hA rfl (by kernel_rfl) (binds_K S.X rfl hT hd rfl rfl) (by kernel_rfl) (by kernel_rfl) fun a' h₁ tk₁ ch N S hA => ?_
  unfold Body
  refine execs_consP (IfE S (.bop (.or (.lt (.locI N (.tail (.tail .head)) rfl) .int) fun _ => .or (.gt (.locI N (.tail (.tail .head)) rfl) (.lenOct N g_len (.locOct N (.tail .head) rfl o) (by omega))) fun _ => .nilOr)) (fun hb h tk S => absurd hb (by simp; omega)) (fun hb h tk S => ?_))
  refine execs_nilP ?_
  refine execs_consP (SetAttrE N S .head rfl mx md at_Cursor_data rfl (by decide) (.loc N (.tail .head) rfl) fun t1 h tk S1 => ?_)
  have n1 := S.ne mx md (ne_of_cls (show (Value.ref 240 : Value) ≠ .type "dict" by decide))
  refine execs_consP (SetAttrE N S1 .head rfl (updL_ne mx n1) (updL_self md) at_Cursor_at at_none (Nat.lt_of_le_of_lt (putL_length _ _ _ _ _) (by decide)) (.loc N (.tail (.tail .head)) rfl) fun t2 h tk S2 => ?_)
  exact execs_nilP (k _ h tk (ch.ret S2) (cur_facts (es := []) S mx md o) fun r hr n => updL_ne (updL_ne hr n) n)
theorem c_cinit1 (S : St (W0 w) a xs ρ led h) (hA : AOK A a 9) (mx : (c, instObj 240 dc) ∈ led) (md : (dc, dictOf [] 0) ∈ led) (o : Oct led dv l) (hz : l.length ≤ 100000)
    (k : ∀ led' h' tk', St (W0 w) a xs ρ led' h' → Cur led' c dc dv l 0 → (∀ r ∈ led, r.1 ≠ dc → r ∈ led') → R (.ok (.ret .none)) ⟨h', G, D, tk', O⟩) :
    codeP (W0 w).M A (.call (.ref 174) ⟨[.ref c, dv], []⟩) R ⟨h, G, D, tk, O⟩ := by
  obtain ⟨oT, t, nn, hT, hd⟩ : ∃ oT t nn, (W0 w).K.lookup 167 = some oT ∧ oT.data = .seq #[Value.int 0 t] nn := ⟨_, _, _, rfl, rfl⟩
  refine fnQ 8 [("self", .ref c), ("data", dv), ("at", .int 0 t)] ["self", "data", "at"] [some (.ref c), some dv, some (.int 0 t)] S hA rfl (by kernel_rfl) (binds_K S.X rfl hT hd rfl rfl) (by kernel_rfl) (by kernel_rfl) fun a' h₁ tk₁ ch N S hA => ?_
  unfold Body
  refine execs_consP (IfE S (.bop (.or (.lt (.locI N (.tail (.tail .head)) rfl) .int) fun _ => .or (.gt (.locI N (.tail (.tail .head)) rfl) (.lenOct N g_len (.locOct N (.tail .head) rfl o) (by omega))) fun _ => .nilOr)) (fun hb h tk S => absurd hb (by simp)) (fun hb h tk S => ?_))
  refine execs_nilP ?_
  refine execs_consP (SetAttrE N S .head rfl mx md at_Cursor_data rfl (by decide) (.loc N (.tail .head) rfl) fun t1 h tk S1 => ?_)
  have n1 := S.ne mx md (ne_of_cls (show (Value.ref 240 : Value) ≠ .type "dict" by decide))
  refine execs_consP (SetAttrE N S1 .head rfl (updL_ne mx n1) (updL_self md) at_Cursor_at at_none (Nat.lt_of_le_of_lt (putL_length _ _ _ _ _) (by decide)) (.loc N (.tail (.tail .head)) rfl) fun t2 h tk S2 => ?_)
  exact execs_nilP (k _ h tk (ch.ret S2) (cur_facts (es := []) (p := 0) S mx md o) fun r hr n => updL_ne (updL_ne hr n) n)
theorem c_sinit (S : St (W0 w) a xs ρ led h) (hA : AOK A a 9) (mx : (c, instObj 317 dc) ∈ led) (md : (dc, dictOf [] 0) ∈ led)
    (k : ∀ b led' h' tk', St (W0 w) a xs ρ led' h' → Snk led' c dc b [] → (∀ r ∈ led, r.1 ≠ dc → r ∈ led') → (∀ r ∈ led, r.1 ≠ b) → R (.ok (.ret .none)) ⟨h', G, D, tk', O⟩) :
    codeP (W0 w).M A (.call (.ref 258) ⟨[.ref c], []⟩) R ⟨h, G, D, tk, O⟩ := by
  refine fnQ 8 [("self", .ref c)] ["self"] [some (.ref c)] S hA rfl (by kernel_rfl) (.of_eq (by kernel_rfl)) (by kernel_rfl) (by kernel_rfl) fun a' h₁ tk₁ ch N S hA => ?_
  unfold Body
  refine execs_consP (AssignAttrP (CallE N S g_bytearray rfl .nil fun vs h tk hv S => ?_))
  subst hv
  refine call_ba0 S fun b h S ne => (Ev.loc N .head rfl).go S fun u h tk hu S => ?_
  subst hu
  refine setAttrP S (.tail _ mx) (.tail _ md) at_Sink_parts rfl (by decide) fun t h tk S' => ?_
  have n1 := S.ne (.tail _ mx) (.tail _ md) (ne_of_cls (show (Value.ref 317 : Value) ≠ .type "dict" by decide))
  refine execs_nilP (k b _ h tk (ch.ret S') ⟨updL_ne (.tail _ mx) n1, ⟨_, _, updL_self (.tail _ md), getL_put_self, KeysIn.put (by simp) fun e he => by cases he⟩, updL_ne (.head _) (ne _ md).symm⟩ (fun r hr n => updL_ne (.tail _ hr) n) fun r hr => ne r hr)

/-- Cursor(data, at) -/
theorem newCur2 {t : Tok} {Q : Value → Shared → Prop} (S : St (W0 w) a xs ρ led h) (hA : AOK A a 10) (o : Oct led dv l) (hz : l.length ≤ 100000) (hp : p ≤ l.length)
    (k : ∀ c dc led' h' tk', St (W0 w) a xs ρ led' h' → Cur led' c dc dv l p → (∀ r ∈ led, r ∈ led' ∧ r.1 ≠ c ∧ r.1 ≠ dc) → Q (.ref c) ⟨h', G, D, tk', O⟩) :
    wpP (W0 w).M A (PySem.call (.ref 240) [dv, .int p t]) Q E ⟨h, G, D, tk, O⟩ :=
  makeP S mk_Cursor me_Cursor_init ty_Cursor_init fun x dx h' tk' S' ne => c_cinit2 S' hA.make (.head _) (.tail _ (.head _)) (o.onLed fun q hq => .tail _ (.tail _ hq)) hz hp fun led' h'' tk'' S'' C kp =>
    ⟨rfl, k x dx led' h'' tk'' S'' C fun r hr => ⟨kp r (.tail _ (.tail _ hr)) (ne r hr).2, ne r hr⟩⟩
theorem newCur1 {Q : Value → Shared → Prop} (S : St (W0 w) a xs ρ led h) (hA : AOK A a 10) (o : Oct led dv l) (hz : l.length ≤ 100000)
    (k : ∀ c dc led' h' tk', St (W0 w) a xs ρ led' h' → Cur led' c dc dv l 0 → (∀ r ∈ led, r ∈ led' ∧ r.1 ≠ c ∧ r.1 ≠ dc) → Q (.ref c) ⟨h', G, D, tk', O⟩) :
    wpP (W0 w).M A (PySem.call (.ref 240) [dv]) Q E ⟨h, G, D, tk, O⟩ :=
  makeP S mk_Cursor me_Cursor_init ty_Cursor_init fun x dx h' tk' S' ne => c_cinit1 S' hA.make (.head _) (.tail _ (.head _)) (o.onLed fun q hq => .tail _ (.tail _ hq)) hz fun led' h'' tk'' S'' C kp =>
    ⟨rfl, k x dx led' h'' tk'' S'' C fun r hr => ⟨kp r (.tail _ (.tail _ hr)) (ne r hr).2, ne r hr⟩⟩
theorem newSnk {Q : Value → Shared → Prop} (S : St (W0 w) a xs ρ led h) (hA : AOK A a 10)
    (k : ∀ c dc b led' h' tk', St (W0 w) a xs ρ led' h' → Snk led' c dc b [] → (∀ r ∈ led, r ∈ led' ∧ r.1 ≠ c ∧ r.1 ≠ dc ∧ r.1 ≠ b) → Q (.ref c) ⟨h', G, D, tk', O⟩) :
    wpP (W0 w).M A (PySem.call (.ref 317) []) Q E ⟨h, G, D, tk, O⟩ :=
  makeP S mk_Sink me_Sink_init ty_Sink_init fun x dx h' tk' S' ne => c_sinit S' hA.make (.head _) (.tail _ (.head _)) fun b led' h'' tk'' S'' C kp nb =>
    ⟨rfl, k x dx b led' h'' tk'' S'' C fun r hr => ⟨kp r (.tail _ (.tail _ hr)) (ne r hr).2, (ne r hr).1, (ne r hr).2, nb r (.tail _ (.tail _ hr))⟩⟩
end
end Mine

end
section
set_option maxRecDepth 100000
open PySem PySem.W PySem.Calls PyProof.Rows
open Sem (wp)
set_option Elab.async false
set_option linter.unusedVariables false
namespace Mine
def edges : List Int := [0, 1, 127, 128, 255, 256, 16384, 4294967295, 4294967296, 18446744073709551615, 18446744073709551616, -1]
def drawOf (ns : List Int) (i : Nat) : Int := ns.getD (i % ns.length) 0 + 31 * ((i / ns.length : Nat) : Int)
def lawValue (kind z : Nat) : DV :=
  if kind < 5 then (if z % 16 < 12 then .int (edges.getD (z % 16) 0) else .int ((z / 16 : Nat) : Int))
  else if kind = 6 ∧ z / 5 % 9 = 7 then .byt (List.replicate 9 255 ++ [z / 45 % 4])
  else .byt ((List.range (if z / 5 % 9 = 8 then 130 else z % 5)).map fun j => (z / 7 + 37 * j) % 256)
theorem clos1 {sc : Scope} {env : Env} {j x : Str} {c : Addr} (hs : sc.names = [(PySem.Str.ofString ".0", NameKind.local), (j, NameKind.local), (x, NameKind.free)]) (hc : env.cells = [(x, c)]) : closureFor sc env = pure [(x, c)] := by
  unfold closureFor cellOf
  rw [hs, hc]
  simp
theorem upto_map {n : Nat} {f : Int → Int} {g : Nat → Nat} (h : ∀ j : Nat, j < n → f j = (g j : Int)) : (upto n).map f = ((List.range n).map g).map Int.ofNat := by
  unfold upto
  rw [List.map_map, List.map_map]
  apply List.map_congr_left
  intro j hj
  exact h j (List.mem_range.mp hj)
theorem mod_nat (a b : Nat) : ((a : Int)).fmod (b : Int) = ((a % b : Nat) : Int) := by rw [Int.fmod_eq_emod_of_nonneg _ (by omega)]; omega
theorem div_nat (a b : Nat) : ((a : Int)).fdiv (b : Int) = ((a / b : Nat) : Int) := by rw [Int.fdiv_eq_ediv_of_nonneg _ (by omega)]; omega

section
variable {W : Wd} {A : Around} {E : Value → Shared → Prop} {a : Act} {xs : List Str} {ρ : List (Option Value)} {led : List (Addr × Obj)} {h : Heap} {G : Array GenState} {D : Drawn} {tk : Nat} {O : OsState} {env : Env}
theorem Ev.modN {l r pos} {i j : Nat} (hl : Ev W A env a xs ρ led l (IsI i)) (hr : Ev W A env a xs ρ led r (IsI j)) (h : j ≠ 0) : Ev W A env a xs ρ led (.BinOp l .Mod r pos) (IsI ((i % j : Nat) : Int)) :=
  .castI (.mod hl hr (by omega)) (mod_nat i j)
theorem Ev.divN {l r pos} {i j : Nat} (hl : Ev W A env a xs ρ led l (IsI i)) (hr : Ev W A env a xs ρ led r (IsI j)) (h : j ≠ 0) (h2 : j < 2 ^ 64) : Ev W A env a xs ρ led (.BinOp l .FloorDiv r pos) (IsI ((i / j : Nat) : Int)) :=
  .castI (.div hl hr (by omega) (by rw [Int.natAbs_natCast]; have := (Nat.log2_lt h).mpr h2; omega)) (div_nat i j)
theorem Ev.int' {i : Nat} {k : Nat} {pos : Pos} : Ev W A env a xs ρ led (.Constant (.int (i : Int)) k pos) (IsI (i : Int)) := .int
/-- bytes(<a made list>) -/
theorem BytesOf {e : Expr} {np cp : Pos} {ns : List Nat} {Q : Value → Shared → Prop} (N : EnvOK env a xs) (S : St W a xs ρ led h) (hh : A.handled = none) (g : GV W "bytes" (.type "bytes")) (hr : ∀ n ∈ ns, n < 256) (hz : ns.length ≤ 1000)
    (he : ∀ {h tk} {Q' : Value → Shared → Prop}, St W a xs ρ led h → (∀ y vs k led' h tk, St W a xs ρ led' h → (∀ r ∈ led, r ∈ led') → (y, lstO vs k) ∈ led' → IntsAre vs (ns.map Int.ofNat) → Q' (.ref y) ⟨h, G, D, tk, O⟩) → wpP W.M A (eval e env) Q' E ⟨h, G, D, tk, O⟩)
    (q : ∀ t h' tk', St W a xs ρ led h' → Q (.bytes (ba ns) t) ⟨h', G, D, tk', O⟩)
    (hx : (env.kindOf "bytes" == some .globalImplicit && !(("bytes" : Str) == ("__debug__" : Str))) = true := by kernel_rfl) (hp : starEach [e] env = [(false, eval e env)] := by rfl) :
    wpP W.M A (eval (.Call (.Name "bytes" np) [e] [] cp) env) Q E ⟨h, G, D, tk, O⟩ := by
  refine CallNameP N S g rfl (fun h tk S => ?_) hx (by rw [hp]; rfl)
  refine spliced_consP (he S fun y vs k led' h tk S kp m hi => spliced_nilP ⟨S.X, ?_⟩) hp
  exact call_bytes_list S m hi hr (Nat.le_trans hz (by decide)) hh fun t h tk S => q t h tk (S.onLed kp)
end

section
variable {w : World} {A : Around} {E : Value → Shared → Prop} {a : Act} {xs : List Str} {ρ : List (Option Value)} {led : List (Addr × Obj)} {h : Heap} {G : Array GenState} {D : Drawn} {tk : Nat} {O : OsState} {R : Result → Shared → Prop}

theorem c_edges (S : St (W0 w) a xs ρ led h) (hA : AOK A a 5)
    (k : ∀ y vs h' tk', IntsAre vs edges → St (W0 w) a xs ρ ((y, lstO vs) :: led) h' → (∀ p ∈ led, p.1 ≠ y) → R (.ok (.ret (.ref y))) ⟨h', G, D, tk', O⟩) :
    codeP (W0 w).M A (.call (.ref 328) ⟨[], []⟩) R ⟨h, G, D, tk, O⟩ := by
  refine fnQ 4 [] [] [] S hA rfl (by kernel_rfl) (.of_eq (by kernel_rfl)) (by kernel_rfl) (by kernel_rfl) fun a' h₁ tk₁ ch N S hA => ?_
  unfold Body
  refine execs_consP (ReturnP (ListP ((EvIs.cons .int (EvIs.cons .int (EvIs.cons .int (EvIs.cons .int (EvIs.cons .int (EvIs.cons .int (EvIs.cons .int (EvIs.cons .int (EvIs.cons .int (EvIs.cons .int (EvIs.cons .int (EvIs.cons (.neg .int) EvIs.nil)))))))))))).go S fun vs h tk hv S => newListP S (by rw [hv.length]; decide) fun y h tk S ne => ?_)))
  exact k y vs h tk hv (ch.ret S) ne
theorem c_draw {y : Addr} {vs : List Value} {n : Nat} {ns : List Int} {i : Nat} {t : Tok} (S : St (W0 w) a xs ρ led h) (hA : AOK A a 5) (m : (y, lstO vs n) ∈ led) (hi : IntsAre vs ns) (h0 : ns ≠ []) (hz : ns.length ≤ 100)
    (k : ∀ t h' tk', St (W0 w) a xs ρ led h' → R (.ok (.ret (.int (drawOf ns i) t))) ⟨h', G, D, tk', O⟩) :
    codeP (W0 w).M A (.call (.ref 335) ⟨[.ref y, .int i t], []⟩) R ⟨h, G, D, tk, O⟩ := by
  refine fnQ 4 [("nums", .ref y), ("i", .int i t)] ["nums", "i"] [some (.ref y), some (.int i t)] S hA rfl (by kernel_rfl) (.of_eq (by kernel_rfl)) (by kernel_rfl) (by kernel_rfl) fun a' h₁ tk₁ ch N S hA => ?_
  unfold Body
  have hl := hi.length
  have hpos : 0 < ns.length := List.length_pos_iff.mpr h0
  have hm : i % ns.length < vs.length := by rw [hl]; exact Nat.mod_lt _ hpos
  obtain ⟨t1, e1⟩ := intsAre_get hi (i % ns.length) vs[i % ns.length] (List.getElem?_eq_getElem hm)
  refine execs_consP (ReturnE S (.add ((Ev.itemL (x := vs[i % ns.length]) (.loc N .head rfl) m (.modN (j := ns.length) (.locI N (.tail .head) rfl) (.castI (.lenL N g_len (.loc N .head rfl) m (by omega)) (by rw [hl])) (by omega)) (by omega) (by rw [Int.toNat_natCast]; exact List.getElem?_eq_getElem hm) (by omega)).mono (P' := IsI (ns.getD (i % ns.length) 0)) fun v e => by subst e; exact ⟨t1, e1⟩) (.mul .int (.divN (j := ns.length) (.locI N (.tail .head) rfl) (.castI (.lenL N g_len (.loc N .head rfl) m (by omega)) (by rw [hl])) (by omega) (by omega)) (.of_left (by decide +kernel)))) fun v h tk ⟨t, hv⟩ S => ?_)
  subst hv
  exact k t h tk (ch.ret S)
end
end Mine

end
section
set_option maxRecDepth 100000
open PySem PySem.W PySem.Calls PyProof.Rows
open Sem (wp)
set_option Elab.async false
set_option linter.unusedVariables false
namespace Mine
theorem IntsAre.append {vs ws : List Value} {ns ms : List Int} (h : IntsAre vs ns) (k : IntsAre ws ms) : IntsAre (vs ++ ws) (ns ++ ms) := by
  induction h with
  | nil => exact k
  | cons n t _ ih => exact .cons n t ih
theorem IntsAre.rep {i : Int} {t : Tok} : ∀ n, IntsAre (List.replicate n (Value.int i t)) (List.replicate n i)
  | 0 => .nil
  | n + 1 => .cons i t (IntsAre.rep n)
theorem IntsAre.cut {lo hi : Option Int} {vs : List Value} {ns : List Int} (h : IntsAre vs ns) : IntsAre (cut lo hi vs) (cut lo hi ns) := by
  have dr : ∀ (n : Nat) {vs : List Value} {ns : List Int}, IntsAre vs ns → IntsAre (vs.drop n) (ns.drop n) := by
    intro n
    induction n with
    | zero => intro vs ns h; simpa using h
    | succ n ih => intro vs ns h; cases h with
      | nil => exact .nil
      | cons m t h => simpa using ih h
  have tk : ∀ (n : Nat) {vs : List Value} {ns : List Int}, IntsAre vs ns → IntsAre (vs.take n) (ns.take n) := by
    intro n
    induction n with
    | zero => intro vs ns h; simpa using IntsAre.nil
    | succ n ih => intro vs ns h; cases h with
      | nil => exact .nil
      | cons m t h => simpa using IntsAre.cons m t (ih h)
  unfold Mine.cut
  rw [h.length]
  exact tk _ (dr _ h)
theorem digits_tail {r : Nat} (h : 128 ≤ r) : (digits r).tail = (r / 128) % 128 :: (digits (r / 128)).tail := by
  rw [digits_big h, List.tail_cons]
  by_cases h2 : r / 128 < 128
  · rw [digits_small h2, Nat.mod_eq_of_lt h2]; rfl
  · rw [digits_big (by omega)]; rfl
theorem digits_head (r : Nat) : digits r = [r % 128] ++ (digits r).tail := by
  by_cases h2 : r < 128
  · rw [digits_small h2, Nat.mod_eq_of_lt h2]; rfl
  · rw [digits_big (by omega)]; rfl
theorem groups_cut (n : Nat) : (cut none (some (((digits n).length : Int) - 1)) ((digits n).map Int.ofNat)).map (fun j => j + 128) ++ cut (some (((digits n).length : Int) - 1)) none ((digits n).map Int.ofNat) = (groups n).map Int.ofNat := by
  have p : 0 < (digits n).length := by rw [digits_length]; exact groups_pos _
  have e : ((digits n).length : Int) - 1 = (((digits n).length - 1 : Nat) : Int) := by omega
  rw [e, cut_upto _ _ (by simp), cut_from, ← digits_groups, List.map_append, ← List.map_take, ← List.map_drop, List.map_map, List.map_map]
  rfl

section
variable {W : Wd} {A : Around} {E : Value → Shared → Prop} {a : Act} {xs : List Str} {ρ : List (Option Value)} {led : List (Addr × Obj)} {h : Heap} {G : Array GenState} {D : Drawn} {tk : Nat} {O : OsState} {env : Env}
theorem EA.lenL {e : Expr} {np cp : Pos} {y : Addr} {vs : List Value} {n : Nat} (S : St W a xs ρ led h) (N : EnvOK env a xs) (g : GV W "len" (.builtin "len")) (he : EA W A env h G D O e (· = .ref y)) (m : (y, lstO vs n) ∈ led) (hz : vs.length ≤ 1000000)
    (hx : (env.kindOf "len" == some .globalImplicit && !(("len" : Str) == ("__debug__" : Str))) = true := by kernel_rfl) (hp : starEach [e] env = [(false, eval e env)] := by rfl) : EA W A env h G D O (.Call (.Name "len" np) [e] [] cp) (IsI vs.length) := ⟨fun {E Q tk} q => by
  rw [arm_eval_Call_Name', hp]
  refine wpAny_bind (NameGA S N g hx ?_)
  refine callWith_of (P := fun _ => True) rfl (fun h _ => ⟨.machine, .inr (.inl rfl), .now⟩) (evalArgs_plain (spliced_cons (he.go fun v tk' e => spliced_nil ⟨trivial, ?_⟩)))
  subst e
  refine call_len_list ⟨_, S.get m, rfl, _, rfl⟩ (by rw [List.size_toArray]; omega) ?_
  rw [List.size_toArray]
  exact q _ _ ⟨_, rfl⟩⟩
/-- a slice of a list -/
theorem SliceL {o : Expr} {lo hi : Option Expr} {sp pos : Pos} {y : Addr} {vs : List Value} {n : Nat} {llo lhi : Option Int} {Q : Value → Shared → Prop} (S : St W a xs ρ led h) (ho : Ev W A env a xs ρ led o (· = .ref y)) (m : (y, lstO vs n) ∈ led) (hz : vs.length ≤ 1000000)
    (hl : match lo with | none => llo = none | some e => ∃ i, llo = some i ∧ Ev W A env a xs ρ led e (IsI i)) (hu : match hi with | none => lhi = none | some e => ∃ i, lhi = some i ∧ Ev W A env a xs ρ led e (IsI i))
    (q : ∀ z h' tk', St W a xs ρ ((z, lstO (cut llo lhi vs)) :: led) h' → (∀ p ∈ led, p.1 ≠ z) → Q (.ref z) ⟨h', G, D, tk', O⟩) : wpP W.M A (eval (.Subscript o (.Slice lo hi none sp) pos) env) Q E ⟨h, G, D, tk, O⟩ := by
  refine SubscriptP (ho.go S fun v h tk hv S => SliceP S hl hu fun x lv uv h tk p1 p2 S ne => ?_)
  subst hv
  refine slice_list S (.tail _ m) (.head _) p1 p2 hz fun z h tk S ne' => q z h tk (S.onLed fun p hp => ?_) fun p hp => ne' p (.tail _ hp)
  rcases List.mem_cons.mp hp with rfl | hp
  · exact .head _
  · exact .tail _ (.tail _ hp)
end

section
variable {w : World} {A : Around} {E : Value → Shared → Prop} {a : Act} {xs : List Str} {ρ : List (Option Value)} {led : List (Addr × Obj)} {h : Heap} {G : Array GenState} {D : Drawn} {tk : Nat} {O : OsState} {R : Result → Shared → Prop}

theorem c_lgroups {n : Nat} {t : Tok} (S : St (W0 w) a xs ρ led h) (hA : AOK A a 5) (hn : n < 2 ^ 200)
    (k : ∀ t h' tk', St (W0 w) a xs ρ led h' → R (.ok (.ret (.bytes (ba (groups n)) t))) ⟨h', G, D, tk', O⟩) :
    codeP (W0 w).M A (.call (.ref 340) ⟨[.int n t], []⟩) R ⟨h, G, D, tk, O⟩ := by
  refine fnQ 4 [("n", .int n t)] ["n", "out"] [some (.int n t), none] S hA rfl (by kernel_rfl) (.of_eq (by kernel_rfl)) (by kernel_rfl) (by kernel_rfl) fun a' h₁ tk₁ ch N S hA => ?_
  unfold Body
  have hlen : (groups n).length ≤ 29 := groups_length_le n 29 (by decide) (Nat.lt_of_lt_of_le hn (by decide))
  refine execs_consP (AssignNameP (ListP ((EvIs.cons (.modN (j := 128) (.locI N .head rfl) .int (by decide)) EvIs.nil).go S fun vs h tk hv S => newListP S (by rw [hv.length]; show 1 ≤ 1000; decide) fun o h tk S ne => storeL S (.tail .head) N.loc N.kind N.names fun h tk S => ?_)))
  refine execs_consP (WhileP (fun k ρ' led' => ∃ (r : Nat) (l : List Nat) (vs : List Value) (t : Tok) (m : Nat), k = r ∧ ρ' = [some (.int r t), some (.ref o)] ∧ (o, lstO vs m) ∈ led' ∧ IntsAre vs (l.map Int.ofNat) ∧ digits n = l ++ (digits r).tail ∧ ∀ p ∈ led, p ∈ led') n S
      ⟨n, [n % 128], vs, t, 0, rfl, rfl, .head _, hv, digits_head n, fun p hp => .tail _ hp⟩ (fun r ρ led₁ h tk ⟨r', l, vs, t, m, hk, hρ, mo, hi, hg, hl⟩ S => ?_))
  subst hk hρ
  have hll : l.length ≤ 29 := by
    have := congrArg List.length hg
    rw [List.length_append, digits_length] at this; omega
  have hvl := hi.length
  rw [List.length_map] at hvl
  refine (EvB.ge (Ev.locI N .head rfl) Ev.int).go S fun h tk S => ?_
  by_cases hr : 128 ≤ r
  · rw [decide_eq_true (show (r : Int) ≥ 128 by omega), if_pos rfl]
    refine execs_consP (SetE N S (.divN (j := 128) (.locI N .head rfl) .int (by decide) (by decide)) .head fun v h tk ⟨t1, hv⟩ S => ?_)
    subst hv
    refine execs_consP (AppendL S (.loc N (.tail .head) rfl) mo (.modN (j := 128) (.locI N .head rfl) .int (by decide)) (by omega) (fun v h tk hv S => ?_) _ rfl)
    obtain ⟨t2, rfl⟩ := hv
    refine execs_nilP ⟨r / 128, _, _, h, tk, by omega, rfl, S, r / 128, l ++ [r / 128 % 128], _, t1, _, rfl, rfl, updL_self mo, ?_, ?_, fun p hp => updL_ne (hl p hp) (ne p hp)⟩
    · rw [List.map_append]
      exact hi.append (.cons _ _ .nil)
    · rw [hg, digits_tail hr, List.append_assoc]; rfl
  · rw [decide_eq_false (show ¬ (r : Int) ≥ 128 by omega), if_neg (by decide)]
    rw [digits_small (n := r) (by omega), List.tail_cons, List.append_nil] at hg
    subst hg
    have lenv : (vs.length : Int) = ((digits n).length : Int) := by rw [hvl]
    refine execs_consP (ReturnP (BytesOf (ns := groups n) N S hA.hd g_bytes (groups_lt n) (by omega) (fun {h tk Q'} S q => BinOpP ?_) fun t h tk S => ?_))
    · refine CompSlice (f := fun j => j + 128) N S hA.hd (.locS S N (.tail .head) rfl) mo hi (by simp; omega) rfl ⟨_, rfl, .sub (.lenL S N g_len (.locS S N (.tail .head) rfl) mo (by omega)) .int⟩ rfl rfl (by kernel_rfl) (by kernel_rfl)
        (fun C j t h₃ m₃ G D O hns hm hj hled => .add (.isI (.loc (by kernel_rfl) (by kernel_rfl) hns hm) rfl) .int) fun y ws k h tk S hws => ?_
      refine SliceL S (.loc N (.tail .head) rfl) (.tail _ mo) (by omega) ⟨_, rfl, .sub (.lenL N g_len (.loc N (.tail .head) rfl) (.tail _ mo) (by omega)) .int⟩ rfl fun z h tk S ne2 => ?_
      rw [lenv] at hws S
      have hws2 : IntsAre (cut (some (((digits n).length : Int) - 1)) none vs) _ := Mine.IntsAre.cut hi
      have hall := Mine.IntsAre.append hws hws2
      rw [groups_cut] at hall
      have hl2 := hall.length
      rw [List.length_append, List.length_map] at hl2
      refine add_lst S (.tail _ (.head _)) (.head _) (by omega) fun x h tk S => q x _ _ _ h tk S (fun r hr => .tail _ (.tail _ (.tail _ hr))) (.head _) hall
    · exact k t h tk ((ch.ret S).onLed hl)
end
end Mine

end
section
set_option maxRecDepth 100000
open PySem PySem.W PySem.Calls PyProof.Rows
open Sem (wp)
set_option Elab.async false
set_option linter.unusedVariables false
namespace Mine
theorem bits_nat {n : Nat} (h : n < 2 ^ 64) : Builtin.Int.intBits (n : Int) ≤ 64 := PySem.intBits_le_iff.mpr (by rw [Int.natAbs_natCast]; exact h)
theorem pow256 (j : Nat) : (256 : Int) ^ ((j : Int)).toNat = ((256 ^ j : Nat) : Int) := by rw [Int.toNat_natCast, Int.natCast_pow]; rfl
theorem pow128 (j : Nat) : (128 : Int) ^ ((j : Int)).toNat = ((128 ^ j : Nat) : Int) := by rw [Int.toNat_natCast, Int.natCast_pow]; rfl

section
variable {W : Wd} {A : Around} {E : Value → Shared → Prop} {a : Act} {xs : List Str} {ρ : List (Option Value)} {led : List (Addr × Obj)} {h : Heap} {G : Array GenState} {D : Drawn} {tk : Nat} {O : OsState} {env : Env}
theorem EA.modN {l r pos} {i j : Nat} (hl : EA W A env h G D O l (IsI i)) (hr : EA W A env h G D O r (IsI j)) (hj : j ≠ 0) : EA W A env h G D O (.BinOp l .Mod r pos) (IsI ((i % j : Nat) : Int)) :=
  (EA.mod hl hr (by omega)).mono fun v e => by rw [mod_nat] at e; exact e
theorem EA.divN {l r pos} {i j : Nat} (hl : EA W A env h G D O l (IsI i)) (hr : EA W A env h G D O r (IsI j)) (hj : j ≠ 0) (h2 : j.log2 < 9000) : EA W A env h G D O (.BinOp l .FloorDiv r pos) (IsI ((i / j : Nat) : Int)) :=
  (EA.div hl hr (by omega) (by rw [Int.natAbs_natCast]; exact h2)).mono fun v e => by rw [div_nat] at e; exact e
theorem EA.castI {e} {i j : Int} (h1 : EA W A env h G D O e (IsI i)) (k : i = j) : EA W A env h G D O e (IsI j) := k ▸ h1
theorem execs_join {st : Stmt} {rest : List Stmt} {M : Model} {I : Shared → Prop} {Q : Flow → Shared → Prop} {s : Shared} (h : wpP M A (exec st env) (fun f s => f = .next ∧ I s) E s) (k : ∀ s, I s → wpP M A (execs rest env) Q E s) : wpP M A (execs (st :: rest) env) Q E s :=
  execs_consP (monoP h (fun f s z => by obtain ⟨rfl, z⟩ := z; exact k s z) fun _ _ x => x)
end
section
variable {w : World} {A : Around} {E : Value → Shared → Prop} {a : Act} {xs : List Str} {ρ : List (Option Value)} {led : List (Addr × Obj)} {h : Heap} {G : Array GenState} {D : Drawn} {tk : Nat} {O : OsState} {R : Result → Shared → Prop}

theorem c_lvalue {kind z : Nat} {t1 t2 : Tok} (S : St (W0 w) a xs ρ led h) (hA : AOK A a 8) (hk : kind < 7) (hz : z < 1000000)
    (k : ∀ v h' tk', (lawValue kind z).Is v → St (W0 w) a xs ρ led h' → R (.ok (.ret v)) ⟨h', G, D, tk', O⟩) :
    codeP (W0 w).M A (.call (.ref 345) ⟨[.int kind t1, .int z t2], []⟩) R ⟨h, G, D, tk, O⟩ := by
  refine fnCQ 7 [("kind", .int kind t1), ("z", .int z t2)] ["kind", "size"] [some (.int kind t1), none] "z" (some (.int z t2)) S hA rfl (by kernel_rfl) (.of_eq (by kernel_rfl)) (by kernel_rfl) (fun _ => rfl) (by kernel_rfl) (by kernel_rfl) fun a' h₁ tk₁ c o ch N hc ho hne S hA => ?_
  unfold Body
  refine execs_consP (IfE S (.lt (.locI N .head rfl) .int) (fun hb h tk S => ?_) (fun hb h tk S => ?_))
  · have hk5 : kind < 5 := by simp at hb; omega
    refine execs_consP (IfE S (.lt (.modN (j := 16) (.cellI N hc (.head _) ho) .int (by decide)) .int) (fun hb h tk S => ?_) (fun hb h tk S => ?_))
    · have hz12 : z % 16 < 12 := by simp at hb; omega
      refine execs_consP (ReturnP (SubscriptP (CallE N S g__law_edges rfl .nil fun vs h tk hv S => ?_)))
      subst hv
      refine callP (c_edges S hA.le fun y vs h tk hi S ne => ?_)
      refine (Ev.modN (i := z) (j := 16) (.cellI N hc (.tail _ (.head _)) ho) .int (by decide)).go S fun u h tk ⟨t, hu⟩ S => ?_
      subst hu
      have hl : vs.length = 12 := hi.length
      obtain ⟨t', e⟩ := intsAre_get hi (z % 16) vs[z % 16] (List.getElem?_eq_getElem (by omega))
      refine item_list S (.head _) (by omega) (by rw [Int.toNat_natCast]; exact List.getElem?_eq_getElem (by omega)) (by omega) ?_
      rw [e]
      refine k _ h tk ?_ ((ch.ret S).onLed fun p hp => .tail _ (.tail _ hp))
      unfold lawValue
      rw [if_pos hk5, if_pos hz12]
      exact ⟨t', rfl⟩
    · refine execs_nilP ?_
      refine execs_consP (ReturnE S (.divN (j := 16) (.cellI N hc (.head _) ho) .int (by decide) (by decide)) fun v h tk hv S => ?_)
      refine k _ h tk ?_ ((ch.ret S).onLed fun p hp => .tail _ hp)
      unfold lawValue
      rw [if_pos hk5, if_neg (by simp at hb; omega)]
      exact hv
  · have hk5 : ¬ kind < 5 := by simp at hb; omega
    refine execs_nilP ?_
    refine execs_consP (IfE S (.bop (.and (.eq (.locI N .head rfl) .int) fun _ => .and (.eq (.modN (j := 9) (.divN (j := 5) (.cellI N hc (.head _) ho) .int (by decide) (by decide)) .int (by decide)) .int) fun _ => .nilAnd)) (fun hb h tk S => ?_) (fun hb h tk S => ?_))
    · simp at hb
      have hb' : kind = 6 ∧ z / 5 % 9 = 7 := by omega
      refine execs_consP (ReturnP (BytesOf (ns := List.replicate 9 255 ++ [z / 45 % 4]) N S hA.hd g_bytes (fun n hn => ?_) (by simp) (fun {h tk Q'} S q => BinOpP (BinOpP ?_)) fun t h tk S => ?_))
      · rcases List.mem_append.mp hn with hn | hn
        · obtain ⟨_, rfl⟩ := List.mem_replicate.mp hn; decide
        · simp at hn; omega
      · refine ListP ((EvIs.cons .int EvIs.nil).go S fun vs h tk hv S => newListP S (by rw [hv.length]; show 1 ≤ 1000; decide) fun y1 h tk S ne1 => ?_)
        cases hv with
        | cons m t5 hr =>
          cases hr
          refine Ev.int.go S fun u h tk ⟨t6, hu⟩ S => ?_
          subst hu
          refine mul_lst S (.head _) (by decide) (by decide) fun y2 h tk S => ?_
          refine ListP ((EvIs.cons (.modN (j := 4) (.divN (j := 45) (.cellI N hc (.tail _ (.tail _ (.head _))) ho) .int (by decide) (by decide)) .int (by decide)) EvIs.nil).go S fun ws h tk hw S => newListP S (by rw [hw.length]; show 1 ≤ 1000; decide) fun y3 h tk S ne1 => ?_)
          have hall := Mine.IntsAre.append (IntsAre.rep (i := 255) (t := t5) 9) hw
          have hl2 := hw.length
          refine add_lst S (.tail _ (.head _)) (.head _) ?_ fun x h tk S => q x _ _ _ h tk S (fun r hr => .tail _ (.tail _ (.tail _ (.tail _ hr)))) (.head _) ?_
          · rw [hl2]; show 9 + 1 ≤ 1000000; decide
          · exact hall
      · refine k _ h tk ?_ ((ch.ret S).onLed fun p hp => .tail _ hp)
        unfold lawValue
        rw [if_neg hk5, if_pos hb']
        exact ⟨t, rfl⟩
    · have hb' : ¬ (kind = 6 ∧ z / 5 % 9 = 7) := by simp at hb; omega
      refine execs_nilP ?_
      refine execs_consP (SetE N S (.modN (j := 5) (.cellI N hc (.head _) ho) .int (by decide)) (.tail .head) fun v h tk ⟨t7, hv⟩ S => ?_)
      subst hv
      refine execs_join (I := fun s => ∃ sz t8 h tk, s = ⟨h, G, D, tk, O⟩ ∧ sz ≤ 130 ∧ sz = (if z / 5 % 9 = 8 then 130 else z % 5) ∧ St (W0 w) a' ["kind", "size"] [some (.int kind t1), some (.int (sz : Nat) t8)] ((c, o) :: led) h) (IfE S (.eq (.modN (j := 9) (.divN (j := 5) (.cellI N hc (.head _) ho) .int (by decide) (by decide)) .int (by decide)) .int) (fun hb h tk S => ?_) (fun hb h tk S => ?_)) ?_
      · refine execs_consP (SetE N S .int (.tail .head) fun v h tk ⟨t8, hv⟩ S => ?_)
        subst hv
        exact execs_nilP ⟨rfl, 130, t8, h, tk, rfl, by omega, by rw [if_pos (by simp at hb; omega)], S⟩
      · exact execs_nilP ⟨rfl, z % 5, t7, h, tk, rfl, by omega, by rw [if_neg (by simp at hb; omega)], S⟩
      · rintro _ ⟨sz, t8, h, tk, rfl, hs, he, S⟩
        refine execs_consP (ReturnP (BytesOf (ns := (List.range sz).map fun j => (z / 7 + 37 * j) % 256) N S hA.hd g_bytes (fun n hn => ?_) (by simp; omega) (fun {h tk Q'} S q => ?_) fun t h tk S => ?_))
        · obtain ⟨j, _, rfl⟩ := List.mem_map.mp hn
          exact Nat.mod_lt _ (by decide)
        · refine CompRange (f := fun j => ((z / 7 : Nat) + 37 * j).fmod 256) N S hA.hd g_range (.isI (.locS S N (.tail .head) rfl) rfl) (by omega) (clos1 (j := "j") (by rfl) hc) rfl (by kernel_rfl) (by kernel_rfl)
            (fun C j t h₃ m₃ G D O hns hm hj hled => .mod (.add (.divN (j := 7) (.isI (.cell (by kernel_rfl) (by kernel_rfl) (by simp [compEnvC]) (hled _ (.head _)) ho) rfl) .int (by decide) (by decide +kernel)) (.mul .int (.isI (.loc (by kernel_rfl) (by kernel_rfl) hns hm) rfl) (.of_left (by decide +kernel)))) .int (by decide)) fun y ws k h tk S hws => ?_
          rw [upto_map (g := fun j => (z / 7 + 37 * j) % 256) (fun j hj => by
            have e : ((z / 7 : Nat) : Int) + 37 * (j : Int) = ((z / 7 + 37 * j : Nat) : Int) := by omega
            show (((z / 7 : Nat) : Int) + 37 * (j : Int)).fmod 256 = _
            rw [e]; exact mod_nat _ 256)] at hws
          exact q y _ _ _ h tk S (fun r hr => .tail _ hr) (.head _) hws
        · refine k _ h tk ?_ ((ch.ret S).onLed fun p hp => .tail _ hp)
          unfold lawValue
          rw [if_neg hk5, if_neg hb', ← he]
          exact ⟨t, rfl⟩
end
end Mine

end
section
set_option maxRecDepth 100000
open PySem PySem.W PySem.Calls PyProof.Rows
open Sem (wp)
set_option Elab.async false
set_option linter.unusedVariables false
namespace Mine
theorem fit_int {kind : Nat} {d : DV} (hk : kind < 5) (hf : Fit kind d) : ∃ i, d = .int i := by
  cases d with
  | int i => exact ⟨i, rfl⟩
  | bool b => revert hf; match kind, hk with | 0, _ | 1, _ | 2, _ | 3, _ | 4, _ => exact fun z => z.elim
  | byt b => revert hf; match kind, hk with | 0, _ | 1, _ | 2, _ | 3, _ | 4, _ => exact fun z => z.elim
theorem wd_of {kind : Nat} (i : Int) (hk : kind < 5) (n2 : kind ≠ 2) : ∃ wd : Nat, ([1, 8, 0, 4, 8] : List Int).getD kind 0 = wd ∧ wd ≤ 8 ∧ (kind ≠ 1 → enc kind (.int i) = encN i wd) := by
  match kind, hk, n2 with
  | 0, _, _ => exact ⟨1, rfl, by decide, fun _ => rfl⟩
  | 1, _, _ => exact ⟨8, rfl, by decide, fun z => absurd rfl z⟩
  | 3, _, _ => exact ⟨4, rfl, by decide, fun _ => rfl⟩
  | 4, _, _ => exact ⟨8, rfl, by decide, fun _ => rfl⟩
def OptB (o : Option (List Nat)) (v : Value) : Prop := match o with
  | none => v = .none
  | some l => IsB l v
theorem menu_get {vs : List Value} {is : List Int} (hi : IntsAre vs is) {k : Nat} (hk : k < is.length) : ∃ t, vs[k]? = some (.int (is.getD k 0) t) := by
  have hl := hi.length
  obtain ⟨t, e⟩ := intsAre_get hi k vs[k] (List.getElem?_eq_getElem (by omega))
  exact ⟨t, by rw [List.getElem?_eq_getElem (by omega), e]⟩

section
variable {W : Wd} {A : Around} {E : Value → Shared → Prop} {a a' : Act} {xs ys : List Str} {ρ ρ' : List (Option Value)} {led led' : List (Addr × Obj)} {h : Heap} {G : Array GenState} {D : Drawn} {tk : Nat} {O : OsState} {env : Env}
theorem Ev.menu {es : List Expr} {is : List Int} {i : Expr} {lp pos : Pos} {k : Nat} (hes : EvL W A env a xs ρ led es (fun vs => IntsAre vs is)) (hi : ∀ y o, Ev W A env a xs ρ ((y, o) :: led) i (IsI (k : Nat))) (hk : k < is.length) (hz : is.length ≤ 1000) :
    Ev W A env a xs ρ led (.Subscript (.List es lp) i pos) (IsI (is.getD k 0)) := ⟨fun S q => by
  refine SubscriptP (ListP (hes.go S fun vs h tk hv S => newListP S (by rw [hv.length]; exact hz) fun y h tk S ne => (hi y _).go S fun u h tk ⟨t, hu⟩ S => ?_))
  subst hu
  obtain ⟨t, e⟩ := menu_get hv hk
  refine item_list S (.head _) (by omega) (by rw [Int.toNat_natCast]; exact e) (by rw [hv.length]; omega) ?_
  exact q _ _ _ ⟨t, rfl⟩ (S.onLed fun p hp => .tail _ hp)⟩

/-- a class named in a clause -/
structure ClsX (W : Wd) (x : Str) (C : Addr) : Prop where
  glob : nsIn W.K mainGlobals x = some (some (.ref C))
  tup : instIn W.K (.ref C) (.type "tuple") = some false
  cls : isClsIn W.K C = true
  base : subIn W.K (.ref C) (.type "BaseException") = some true
theorem TryE {body : List Stmt} {h₀ : ExceptHandler} {hs : List ExceptHandler} {pos : Pos} {n : Nat} {P : Addr → Prop} {Q : Flow → Shared → Prop} {s : Shared} (N : EnvOK env a' ys) (hA : AOK A a' n) (ch : Child W a a' xs ρ env)
    (k : wpP W.M A (execs body env) Q (fun e s => ∃ ea C h tk, e = .ref ea ∧ s = ⟨h, G, D, tk, O⟩ ∧ Er W a' ys ρ' led' ea C h ∧ P C) s)
    (hk : ∀ ea C h tk, P C → Er W a' ys ρ' led' ea C h → wpP W.M A (handleBy (.ref ea) env (h₀ :: hs)) Q E ⟨h, G, D, tk, O⟩) :
    wpP W.M A (exec (.Try body (h₀ :: hs) [] [] pos) env) Q E s := by
  refine TryP (monoP k (fun _ _ z => z) fun e s z => ?_)
  obtain ⟨ea, C, h, tk, rfl, rfl, r, pc⟩ := z
  exact caughtP (t := handleBy (.ref ea) env (h₀ :: hs)) r hA.fr (by rw [ch.envs]; rfl) (by rw [ch.envs]; simp) N.fra fun h₃ r => hk ea C h₃ tk pc r
theorem ClauseE {e C C₂ : Addr} {b : Bool} {x : Str} {np pos : Pos} {b₀ : Stmt} {suite : List Stmt} {rest : List ExceptHandler} {Q : Flow → Shared → Prop} (X : ClsX W x C₂) (N : EnvOK env a xs) (R : Er W a xs ρ led e C h) (h4 : subIn W.K (.ref C) (.ref C₂) = some b)
    (kt : b = true → ∀ h', St W a xs ρ led h' → wpP W.M (A.mark (some (.ref e))) (execs (b₀ :: suite) env) Q (fun _ _ => False) ⟨h', G, D, tk, O⟩)
    (kf : b = false → wpP W.M A (handleBy (.ref e) env rest) Q E ⟨h, G, D, tk, O⟩)
    (hx : (env.kindOf x == some .globalImplicit && !(x == ("__debug__" : Str))) = true := by kernel_rfl) :
    wpP W.M A (handleBy (.ref e) env (.ExceptHandler (some (.Name x np)) none (b₀ :: suite) pos :: rest)) Q E ⟨h, G, D, tk, O⟩ := by
  simp only [Bool.and_eq_true, beq_iff_eq, Bool.not_eq_true'] at hx
  exact clauseP R N.glob N.bui N.kind hx X.glob X.tup X.cls X.base h4 kt kf
end
section
variable {w : World} {A : Around} {E : Value → Shared → Prop} {a : Act} {xs : List Str} {ρ : List (Option Value)} {led : List (Addr × Obj)} {h : Heap} {G : Array GenState} {D : Drawn} {tk : Nat} {O : OsState} {R : Result → Shared → Prop}
theorem k_ShortOctets : ClsX (W0 w) "ShortOctets" 61 := ⟨by kernel_rfl, by kernel_rfl, by kernel_rfl, by kernel_rfl⟩
theorem k_Corrupt : ClsX (W0 w) "Corrupt" 49 := ⟨by kernel_rfl, by kernel_rfl, by kernel_rfl, by kernel_rfl⟩
theorem k_BadOption : ClsX (W0 w) "BadOption" 73 := ⟨by kernel_rfl, by kernel_rfl, by kernel_rfl, by kernel_rfl⟩

theorem c_loctets {kind : Nat} {d : DV} {uv : Value} {t1 : Tok} (S : St (W0 w) a xs ρ led h) (hA : AOK A a 8) (hk : kind < 7) (hf : Fit kind d) (hv : d.Is uv) (hi : ∀ i, d = .int i → i.natAbs < 2 ^ 200)
    (k : ∀ v h' tk', OptB (enc kind d) v → St (W0 w) a xs ρ led h' → R (.ok (.ret v)) ⟨h', G, D, tk', O⟩) :
    codeP (W0 w).M A (.call (.ref 350) ⟨[.int kind t1, uv], []⟩) R ⟨h, G, D, tk, O⟩ := by
  refine fnCQ 7 [("kind", .int kind t1), ("value", uv)] ["kind", "width"] [some (.int kind t1), none] "value" (some uv) S hA rfl (by kernel_rfl) (.of_eq (by kernel_rfl)) (by kernel_rfl) (fun _ => rfl) (by kernel_rfl) (by kernel_rfl) fun a' h₁ tk₁ c o ch N hc ho hne S hA => ?_
  unfold Body
  refine execs_consP (IfE S (.eq (.locI N .head rfl) .int) (fun hb h tk S => ?_) (fun hb h tk S => ?_))
  · have e2 : kind = 2 := by simp at hb; omega
    subst e2
    cases d with
    | byt l => exact hf.elim
    | bool b => exact hf.elim
    | int i =>
      refine execs_consP (ReturnP (BytesList (ns := [if i = 0 then 0 else 1]) N S hA.hd g_bytes (EvIs.cons (.ifexp (.ne ((Ev.cell N hc (.head _) ho).mono fun v e => e ▸ hv) .int) (fun hc => .castI .int (by rw [if_neg (by simpa using hc)]; rfl)) (fun hc => .castI .int (by rw [if_pos (by simpa using hc)]; rfl))) EvIs.nil) (by intro n hn; simp at hn; subst hn; split <;> omega) (by simp) fun t h tk S => ?_))
      exact k _ h tk ⟨t, rfl⟩ ((ch.ret S).onLed fun p hp => .tail _ hp)
  refine execs_nilP ?_
  have n2 : kind ≠ 2 := by simp at hb; omega
  clear hb
  refine execs_consP (IfE S (.eq (.locI N .head rfl) .int) (fun hb h tk S => ?_) (fun hb h tk S => ?_))
  · have e5 : kind = 5 := by simp at hb; omega
    subst e5
    cases d with
    | int i => exact hf.elim
    | bool b => exact hf.elim
    | byt l =>
      have hl : l.length ≤ 1000 := hf.1
      have hg := groups_length_le l.length 5 (by decide) (by omega)
      refine execs_consP (ReturnE (P := IsB (groups l.length ++ l)) S (.addB (.call N g__law_groups rfl (.one (.lenOct N g_len ((Ev.cell N hc (.head _) ho).mono fun v e => e ▸ IsB.oct hv) (by omega))) fun S p q => ?_) ((Ev.cell N hc (.head _) ho).mono fun v e => e ▸ hv) (by omega)) fun v h tk hv' S => ?_)
      · obtain ⟨_, rfl, t, rfl⟩ := p
        exact callP (c_lgroups S hA.le (by omega) fun t h tk S => q _ h tk ⟨t, rfl⟩ S)
      · exact k _ h tk hv' ((ch.ret S).onLed fun p hp => .tail _ hp)
  refine execs_nilP ?_
  have n5 : kind ≠ 5 := by simp at hb; omega
  clear hb
  refine execs_consP (IfE S (.eq (.locI N .head rfl) .int) (fun hb h tk S => ?_) (fun hb h tk S => ?_))
  · have e6 : kind = 6 := by simp at hb; omega
    subst e6
    cases d with
    | int i => exact hf.elim
    | bool b => exact hf.elim
    | byt l =>
      refine execs_consP (ReturnE S ((Ev.cell N hc (.head _) ho).mono fun v e => e ▸ hv) fun v h tk hv' S => ?_)
      exact k _ h tk hv' ((ch.ret S).onLed fun p hp => .tail _ hp)
  refine execs_nilP ?_
  have n6 : kind ≠ 6 := by simp at hb; omega
  clear hb
  have k5 : kind < 5 := by omega
  obtain ⟨i, rfl⟩ := fit_int k5 hf
  have hi := hi i rfl
  obtain ⟨wd, hwd, hw8, hen⟩ := wd_of i k5 n2
  have hen1 : kind = 1 → wd = 8 ∧ enc kind (.int i) = encV i := fun e => by
    subst e
    have : (8 : Int) = wd := hwd
    exact ⟨by omega, rfl⟩
  refine execs_consP (SetE N S (.castI (.menu (EvIs.cons .int (EvIs.cons .int (EvIs.cons .int (EvIs.cons .int (EvIs.cons .int EvIs.nil))))) (fun y o => .locI N .head rfl) k5 (by decide)) hwd) (.tail .head) fun v h tk ⟨t3, hv3⟩ S => ?_)
  subst hv3
  have V : IsI i uv := hv
  have p256 : (256 : Int) ^ ((wd : Int)).toNat = ((256 ^ wd : Nat) : Int) := pow256 wd
  refine execs_consP (IfE S (.bop (.or (.lt ((Ev.cell N hc (.head _) ho).mono fun v e => e ▸ V) .int) fun _ => .or (.ge ((Ev.cell N hc (.head _) ho).mono fun v e => e ▸ V) (.castI (.pow .int (.locI N (.tail .head) rfl) (by omega) (by omega) (by decide)) p256)) fun _ => .nilOr)) (fun hb h tk S => ?_) (fun hb h tk S => ?_))
  · simp only [Bool.or_eq_true, decide_eq_true_eq, Bool.or_false] at hb
    refine execs_consP (ReturnE S .none fun v h tk hv' S => ?_)
    refine k _ h tk ?_ ((ch.ret S).onLed fun p hp => .tail _ hp)
    by_cases h1 : kind = 1
    · obtain ⟨rfl, e⟩ := hen1 h1
      rw [e]
      unfold encV
      rw [if_neg (by have : ((256 ^ 8 : Nat) : Int) = 18446744073709551616 := by decide
                     omega)]
      exact hv'
    · rw [hen h1]
      unfold encN
      have hcast : ((256 ^ wd : Nat) : Int) = (256 : Int) ^ wd := by rw [Int.natCast_pow]; rfl
      rw [if_neg (by rw [← hcast]; omega)]
      exact hv'
  · simp only [Bool.or_eq_false_iff, decide_eq_false_iff_not, Bool.or_false] at hb
    refine execs_nilP ?_
    obtain ⟨n, rfl⟩ := Int.eq_ofNat_of_zero_le (show 0 ≤ i by omega)
    have hn : n < 256 ^ wd := by omega
    refine execs_consP (IfE S (.eq (.locI N .head rfl) .int) (fun hb h tk S => ?_) (fun hb h tk S => ?_))
    · have e1 : kind = 1 := by simp at hb; omega
      obtain ⟨rfl, e⟩ := hen1 e1
      refine execs_consP (ReturnP (CallE N S g__law_groups rfl (.one ((Ev.cell N hc (.head _) ho).mono fun v e => e ▸ V)) fun vs h tk hv' S => ?_))
      obtain ⟨_, rfl, t, rfl⟩ := hv'
      refine callP (c_lgroups S hA.le (by omega) fun t h tk S => k _ h tk ?_ ((ch.ret S).onLed fun p hp => .tail _ hp))
      rw [e, enc1 (Nat.lt_of_lt_of_le hn (by decide))]
      exact ⟨t, rfl⟩
    · refine execs_nilP ?_
      have h1 : kind ≠ 1 := by simp at hb; omega
      refine execs_consP (ReturnP (BytesOf (ns := le wd n) N S hA.hd g_bytes (le_lt wd n) (by rw [le_length]; omega) (fun {h tk Q'} S q => ?_) fun t h tk S => ?_))
      · refine CompRange (f := fun j => (((n / 256 ^ j.toNat % 256 : Nat)) : Int)) N S hA.hd g_range (.isI (.locS S N (.tail .head) rfl) rfl) (by omega) (clos1 (j := "j") (by rfl) hc) rfl (by kernel_rfl) (by kernel_rfl)
          (fun C j t h₃ m₃ G D O hns hm hj hled => EA.castI (.modN (j := 256) (.divN (j := 256 ^ j) ((EA.cell (by kernel_rfl) (by kernel_rfl) (by simp [compEnvC]) (hled _ (.head _)) ho).mono fun v e => e ▸ V) (.castI (.pow .int (.isI (.loc (by kernel_rfl) (by kernel_rfl) hns hm) rfl) (by omega) (by omega) (by decide)) (pow256 j)) (by have := Nat.pow_pos (n := j) (show 0 < 256 by decide); omega) (by
            have p0 : 256 ^ j ≠ 0 := by have := Nat.pow_pos (n := j) (show 0 < 256 by decide); omega
            have : 256 ^ j < 2 ^ 100 := Nat.lt_of_le_of_lt (Nat.pow_le_pow_right (by decide) (show j ≤ 8 by omega)) (by decide)
            have := (Nat.log2_lt p0).mpr this; omega)) .int (by decide)) (by rw [Int.toNat_natCast])) fun y ws k h tk S hws => ?_
        rw [upto_map (g := fun j => n / 256 ^ j % 256) (fun j hj => by simp)] at hws
        exact q y _ _ _ h tk S (fun r hr => .tail _ hr) (.head _) hws
      · refine k _ h tk ?_ ((ch.ret S).onLed fun p hp => .tail _ hp)
        rw [hen h1, encN_nat hn]
        exact ⟨t, rfl⟩
theorem c_counted {n : Int} {t : Tok} (S : St (W0 w) a xs ρ led h) (hA : AOK A a 10) (hn : n.natAbs < 2 ^ 200)
    (k : ∀ t h' tk', St (W0 w) a xs ρ led h' → R (.ok (.ret (.int (((encV n).elim 0 List.length : Nat) : Int) t))) ⟨h', G, D, tk', O⟩) :
    codeP (W0 w).M A (.call (.ref 364) ⟨[.int n t], []⟩) R ⟨h, G, D, tk, O⟩ := by
  refine fnQ 9 [("n", .int n t)] ["n"] [some (.int n t)] S hA rfl (by kernel_rfl) (.of_eq (by kernel_rfl)) (by kernel_rfl) (by kernel_rfl) fun a' h₁ tk₁ ch N S hA => ?_
  unfold Body
  refine execs_consP (TryE (G := G) (D := D) (O := O) (led' := led) (ρ' := [some (.int n t)]) (P := fun C => C = 73 ∧ (n < 0 ∨ 18446744073709551615 < n)) N hA ch (execs_consP (ReturnP (CallE N S g_varint_length rfl (.one (.loc N .head rfl)) fun vs h tk hv S => ?_))) fun ea C h tk hC r => ?_)
  · obtain ⟨_, rfl, rfl⟩ := hv
    refine callP (c_varint_length S hA.le hn (fun h0 h1 t h tk S => ?_) fun hc e h tk r => ⟨e, 73, h, tk, rfl, rfl, r, rfl, hc⟩)
    have := k t h tk (ch.ret S)
    unfold encV at this
    rw [if_pos ⟨h0, by omega⟩] at this
    exact this
  · obtain ⟨rfl, hc⟩ := hC
    refine ClauseE (b := true) k_BadOption N r (by kernel_rfl) (fun _ h S => ?_) fun e => by cases e
    refine execs_consP (ReturnE S .int fun v h tk ⟨t, hv⟩ S => ?_)
    subst hv
    have := k t h tk (ch.ret S)
    unfold encV at this
    rw [if_neg (by omega)] at this
    exact this
theorem c_fits {kind : Nat} {d : DV} {uv : Value} {t1 : Tok} (S : St (W0 w) a xs ρ led h) (hA : AOK A a 8) (hv : d.Is uv) (h1 : d.isB = decide (kind > 4)) (h2 : d.isF = (kind == 2))
    (k : ∀ h' tk', St (W0 w) a xs ρ led h' → R (.ok (.ret (.bool true))) ⟨h', G, D, tk', O⟩) :
    codeP (W0 w).M A (.call (.ref 388) ⟨[.int kind t1, uv], []⟩) R ⟨h, G, D, tk, O⟩ := by
  refine fnQ 7 [("kind", .int kind t1), ("value", uv)] ["kind", "value"] [some (.int kind t1), some uv] S hA rfl (by kernel_rfl) (.of_eq (by kernel_rfl)) (by kernel_rfl) (by kernel_rfl) fun a' h₁ tk₁ ch N S hA => ?_
  unfold Body
  refine execs_consP (IfE S (.neBool (b := d.isB) (c := decide ((kind : Int) > 4)) (.call N g_isinstance rfl (.two (.loc N (.tail .head) rfl) (.glob N g_bytes)) fun S p q => ?_) (.gt (.locI N .head rfl) .int)) (fun hb h tk S => ?_) (fun hb h tk S => ?_))
  · obtain ⟨_, _, rfl, rfl, rfl⟩ := p
    exact up (isi_bytes hv fun tk => q _ _ _ rfl S)
  · exfalso
    rw [h1] at hb
    have : decide (kind > 4) = decide ((kind : Int) > 4) := by rw [decide_eq_decide]; omega
    rw [this, bne_self_eq_false] at hb; cases hb
  · refine execs_nilP ?_
    refine execs_consP (ReturnE S (.eqBool (b := d.isF) (c := ((kind : Int) == 2)) (.call N g_isinstance rfl (.two (.loc N (.tail .head) rfl) (.glob N g_bool)) fun S p q => ?_) (.eq (.locI N .head rfl) .int)) fun v h tk hv' S => ?_)
    · obtain ⟨_, _, rfl, rfl, rfl⟩ := p
      exact up (isi_bool S.X hv fun tk => q _ _ _ rfl S)
    · subst hv'
      have e : (d.isF == ((kind : Int) == 2)) = true := by
        rw [h2, beq_iff_eq, Bool.eq_iff_iff]; simp; omega
      rw [e]
      exact k h tk (ch.ret S)
end
end Mine

end
section
set_option maxRecDepth 100000
open PySem PySem.W PySem.Calls PyProof.Rows
open Sem (wp)
set_option Elab.async false
set_option linter.unusedVariables false
namespace Mine
def FitW (kind : Nat) (d : DV) : Prop := Fit kind d ∨ (kind = 2 ∧ ∃ b, d = .bool b)
section
variable {w : World} {A : Around} {E : Value → Shared → Prop} {a : Act} {xs : List Str} {ρ : List (Option Value)} {led : List (Addr × Obj)} {h : Heap} {G : Array GenState} {D : Drawn} {tk : Nat} {O : OsState} {R : Result → Shared → Prop} {c dc b : Addr} {dv : Value} {l : List Nat} {p : Nat}

theorem c_lwrite {kind : Nat} {d : DV} {uv : Value} {t1 : Tok} (S : St (W0 w) a xs ρ led h) (hA : AOK A a 14) (C : Snk led c dc b l) (hz : l.length ≤ 50000) (hk : kind < 7) (hf : FitW kind d) (hv : d.Is uv) (hi : ∀ i, d = .int i → i.natAbs < 2 ^ 200)
    (kok : ∀ o, enc kind d = some o → ∀ led' h' tk', St (W0 w) a xs ρ led' h' → Snk led' c dc b (l ++ o) → (∀ r ∈ led, r.1 ≠ b → r ∈ led') → R (.ok (.ret (.bool true))) ⟨h', G, D, tk', O⟩)
    (kno : enc kind d = none → ∀ h' tk', St (W0 w) a xs ρ led h' → R (.ok (.ret (.bool false))) ⟨h', G, D, tk', O⟩) :
    codeP (W0 w).M A (.call (.ref 357) ⟨[.ref c, .int kind t1, uv], []⟩) R ⟨h, G, D, tk, O⟩ := by
  refine fnQ 13 [("sink", .ref c), ("kind", .int kind t1), ("value", uv)] ["sink", "kind", "value"] [some (.ref c), some (.int kind t1), some uv] S hA rfl (by kernel_rfl) (.of_eq (by kernel_rfl)) (by kernel_rfl) (by kernel_rfl) fun a' h₁ tk₁ ch N S hA => ?_
  unfold Body
  refine execs_consP (monoP (Q := fun f s => (f = .next ∧ ∃ o led' h tk, s = ⟨h, G, D, tk, O⟩ ∧ enc kind d = some o ∧ St (W0 w) a' ["sink", "kind", "value"] [some (.ref c), some (.int kind t1), some uv] led' h ∧ Snk led' c dc b (l ++ o) ∧ ∀ r ∈ led, r.1 ≠ b → r ∈ led') ∨ (f = .ret (.bool false) ∧ ∃ h tk, s = ⟨h, G, D, tk, O⟩ ∧ enc kind d = none ∧ St (W0 w) a' ["sink", "kind", "value"] [some (.ref c), some (.int kind t1), some uv] led h))
    (TryE (G := G) (D := D) (O := O) (led' := led) (ρ' := [some (.ref c), some (.int kind t1), some uv]) (P := fun C => C = 73 ∧ enc kind d = none) N hA ch ?_ fun ea C h tk hC r => ?_) (fun f s z => ?_) fun _ _ z => z)
  rotate_left
  · obtain ⟨rfl, hc⟩ := hC
    refine ClauseE (b := true) k_BadOption N r (by kernel_rfl) (fun _ h S => ?_) fun e => by cases e
    refine execs_consP (ReturnE S .bool fun v h tk hv S => ?_)
    subst hv
    exact .inr ⟨rfl, h, tk, rfl, hc, S⟩
  · rcases z with ⟨rfl, o, led', h, tk, rfl, e, S, C', kp⟩ | ⟨rfl, h, tk, rfl, e, S⟩
    · refine execs_consP (ReturnE S .bool fun v h tk hv S => ?_)
      subst hv
      exact kok o e led' h tk (ch.ret S) C' kp
    · exact kno e h tk (ch.ret S)
  obtain ⟨es, n, md, g1, g2⟩ := C.dct
  refine execs_consP (IfE S (.eq (.locI N (.tail .head) rfl) .int) (fun hb h tk S => ?_) (fun hb h tk S => ?_))
  · have e : kind = 0 := by simp at hb; omega
    subst e
    rcases hf with hf | ⟨hf, bb, rfl⟩
    rotate_left
    · cases hf
    cases d with
    | bool i => exact hf.elim
    | byt i => exact hf.elim
    | int i =>
      obtain ⟨t2, rfl⟩ := hv
      refine execs_consP (ExprP (MethC S (.loc N .head rfl) C.inst md me_Sink_octet (g2.none (by decide)) (.one (.loc N (.tail (.tail .head)) rfl)) (fun vs h tk hv' S => ?_) _))
      obtain ⟨_, rfl, rfl⟩ := hv'
      exact m_octet_s S hA.le C (by omega) (hi i rfl) ⟨fun o e led' h tk S C kp => by (repeat refine execs_nilP ?_); exact .inl ⟨rfl, o, led', h, tk, rfl, e, S, C, kp⟩, fun e ea h tk r => ⟨ea, 73, h, tk, rfl, rfl, r, rfl, e⟩⟩
  have n0 : kind ≠ 0 := by simp at hb; omega
  clear hb
  refine execs_consP (IfE S (.eq (.locI N (.tail .head) rfl) .int) (fun hb h tk S => ?_) (fun hb h tk S => ?_))
  · have e : kind = 1 := by simp at hb; omega
    subst e
    rcases hf with hf | ⟨hf, bb, rfl⟩
    rotate_left
    · cases hf
    cases d with
    | bool i => exact hf.elim
    | byt i => exact hf.elim
    | int i =>
      obtain ⟨t2, rfl⟩ := hv
      refine execs_consP (ExprP (MethC S (.loc N .head rfl) C.inst md me_Sink_varint (g2.none (by decide)) (.one (.loc N (.tail (.tail .head)) rfl)) (fun vs h tk hv' S => ?_) _))
      obtain ⟨_, rfl, rfl⟩ := hv'
      exact m_varint_s S hA.le C (by omega) (hi i rfl) ⟨fun o e led' h tk S C kp => by (repeat refine execs_nilP ?_); exact .inl ⟨rfl, o, led', h, tk, rfl, e, S, C, kp⟩, fun e ea h tk r => ⟨ea, 73, h, tk, rfl, rfl, r, rfl, e⟩⟩
  have n1 : kind ≠ 1 := by simp at hb; omega
  clear hb
  refine execs_consP (IfE S (.eq (.locI N (.tail .head) rfl) .int) (fun hb h tk S => ?_) (fun hb h tk S => ?_))
  · have e : kind = 2 := by simp at hb; omega
    subst e
    rcases hf with hf | ⟨hf, bb, rfl⟩
    rotate_left
    · have hv : uv = .bool bb := hv
      subst hv
      refine execs_consP (ExprP (MethC S (.loc N .head rfl) C.inst md me_Sink_flag (g2.none (by decide)) (.one (.loc N (.tail (.tail .head)) rfl)) (fun vs h tk hv' S => ?_) _))
      obtain ⟨_, rfl, rfl⟩ := hv'
      exact m_flag_b S hA.le C (by omega) ⟨fun o e led' h tk S C kp => by (repeat refine execs_nilP ?_); exact .inl ⟨rfl, o, led', h, tk, rfl, e, S, C, kp⟩, fun e ea h tk r => ⟨ea, 73, h, tk, rfl, rfl, r, rfl, e⟩⟩
    cases d with
    | bool i => exact hf.elim
    | byt i => exact hf.elim
    | int i =>
      obtain ⟨t2, rfl⟩ := hv
      refine execs_consP (ExprP (MethC S (.loc N .head rfl) C.inst md me_Sink_flag (g2.none (by decide)) (.one (.loc N (.tail (.tail .head)) rfl)) (fun vs h tk hv' S => ?_) _))
      obtain ⟨_, rfl, rfl⟩ := hv'
      exact m_flag_i S hA.le C (by omega) ⟨fun o e led' h tk S C kp => by (repeat refine execs_nilP ?_); exact .inl ⟨rfl, o, led', h, tk, rfl, e, S, C, kp⟩, fun e ea h tk r => ⟨ea, 73, h, tk, rfl, rfl, r, rfl, e⟩⟩
  have n2 : kind ≠ 2 := by simp at hb; omega
  clear hb
  refine execs_consP (IfE S (.eq (.locI N (.tail .head) rfl) .int) (fun hb h tk S => ?_) (fun hb h tk S => ?_))
  · have e : kind = 3 := by simp at hb; omega
    subst e
    rcases hf with hf | ⟨hf, bb, rfl⟩
    rotate_left
    · cases hf
    cases d with
    | bool i => exact hf.elim
    | byt i => exact hf.elim
    | int i =>
      obtain ⟨t2, rfl⟩ := hv
      refine execs_consP (ExprP (MethC S (.loc N .head rfl) C.inst md me_Sink_fixed32 (g2.none (by decide)) (.one (.loc N (.tail (.tail .head)) rfl)) (fun vs h tk hv' S => ?_) _))
      obtain ⟨_, rfl, rfl⟩ := hv'
      exact m_fixed32_s S hA.le C (by omega) (hi i rfl) ⟨fun o e led' h tk S C kp => by (repeat refine execs_nilP ?_); exact .inl ⟨rfl, o, led', h, tk, rfl, e, S, C, kp⟩, fun e ea h tk r => ⟨ea, 73, h, tk, rfl, rfl, r, rfl, e⟩⟩
  have n3 : kind ≠ 3 := by simp at hb; omega
  clear hb
  refine execs_consP (IfE S (.eq (.locI N (.tail .head) rfl) .int) (fun hb h tk S => ?_) (fun hb h tk S => ?_))
  · have e : kind = 4 := by simp at hb; omega
    subst e
    rcases hf with hf | ⟨hf, bb, rfl⟩
    rotate_left
    · cases hf
    cases d with
    | bool i => exact hf.elim
    | byt i => exact hf.elim
    | int i =>
      obtain ⟨t2, rfl⟩ := hv
      refine execs_consP (ExprP (MethC S (.loc N .head rfl) C.inst md me_Sink_fixed64 (g2.none (by decide)) (.one (.loc N (.tail (.tail .head)) rfl)) (fun vs h tk hv' S => ?_) _))
      obtain ⟨_, rfl, rfl⟩ := hv'
      exact m_fixed64_s S hA.le C (by omega) (hi i rfl) ⟨fun o e led' h tk S C kp => by (repeat refine execs_nilP ?_); exact .inl ⟨rfl, o, led', h, tk, rfl, e, S, C, kp⟩, fun e ea h tk r => ⟨ea, 73, h, tk, rfl, rfl, r, rfl, e⟩⟩
  have n4 : kind ≠ 4 := by simp at hb; omega
  clear hb
  refine execs_consP (IfE S (.eq (.locI N (.tail .head) rfl) .int) (fun hb h tk S => ?_) (fun hb h tk S => ?_))
  · have e : kind = 5 := by simp at hb; omega
    subst e
    rcases hf with hf | ⟨hf, bb, rfl⟩
    rotate_left
    · cases hf
    cases d with
    | int i => exact hf.elim
    | bool i => exact hf.elim
    | byt i =>
      have hl : i.length ≤ 1000 := hf.1
      refine execs_consP (ExprP (MethC S (.loc N .head rfl) C.inst md me_Sink_lengthed (g2.none (by decide)) (.one (.loc N (.tail (.tail .head)) rfl)) (fun vs h tk hv' S => ?_) _))
      obtain ⟨_, rfl, rfl⟩ := hv'
      exact m_lengthed_s S hA.le C (by omega) hv (by omega) ⟨fun o e led' h tk S C kp => by (repeat refine execs_nilP ?_); exact .inl ⟨rfl, o, led', h, tk, rfl, e, S, C, kp⟩, fun e ea h tk r => ⟨ea, 73, h, tk, rfl, rfl, r, rfl, e⟩⟩
  have n5 : kind ≠ 5 := by simp at hb; omega
  clear hb
  have e : kind = 6 := by omega
  subst e
  rcases hf with hf | ⟨hf, bb, rfl⟩
  rotate_left
  · cases hf
  cases d with
  | int i => exact hf.elim
  | bool i => exact hf.elim
  | byt i =>
    have hl : i.length ≤ 1000 := hf.1
    refine execs_consP (ExprP (MethC S (.loc N .head rfl) C.inst md me_Sink_raw (g2.none (by decide)) (.one (.loc N (.tail (.tail .head)) rfl)) (fun vs h tk hv' S => ?_) _))
    obtain ⟨_, rfl, rfl⟩ := hv'
    exact m_raw S hA.le C (by omega) hv (by omega) ⟨fun o e led' h tk S C kp => by (repeat refine execs_nilP ?_); exact .inl ⟨rfl, o, led', h, tk, rfl, e, S, C, kp⟩, fun e ea h tk r => ⟨ea, 73, h, tk, rfl, rfl, r, rfl, e⟩⟩

theorem c_lread {kind : Nat} {n : Int} {t1 t2 : Tok} (S : St (W0 w) a xs ρ led h) (hA : AOK A a 16) (C : Cur led c dc dv l p) (hl : ∀ x ∈ l, x < 256) (hz : l.length ≤ 50000) (hp : p ≤ l.length) (hk : kind < 7) (hn : n.natAbs < 2 ^ 200)
    (k : ∀ y u v led' h' tk', IsI (look kind n (l.drop p)).code u → (look kind n (l.drop p)).dv.Is v → St (W0 w) a xs ρ ((y, tupO [u, v]) :: led') h' → Cur led' c dc dv l (p + (look kind n (l.drop p)).size) → (∀ r ∈ led, r.1 ≠ dc → r ∈ led') → (∀ r ∈ led', r.1 ≠ y) → R (.ok (.ret (.ref y))) ⟨h', G, D, tk', O⟩) :
    codeP (W0 w).M A (.call (.ref 371) ⟨[.ref c, .int kind t1, .int n t2], []⟩) R ⟨h, G, D, tk, O⟩ := by
  refine fnQ 15 [("cursor", .ref c), ("kind", .int kind t1), ("n", .int n t2)] ["cursor", "kind", "n"] [some (.ref c), some (.int kind t1), some (.int n t2)] S hA rfl (by kernel_rfl) (.of_eq (by kernel_rfl)) (by kernel_rfl) (by kernel_rfl) fun a' h₁ tk₁ ch N S hA => ?_
  unfold Body
  refine execs_consP (TryE (G := G) (D := D) (O := O) (led' := led) (ρ' := [some (.ref c), some (.int kind t1), some (.int n t2)]) (P := fun C => (C = 61 ∧ look kind n (l.drop p) = .short) ∨ (C = 49 ∧ look kind n (l.drop p) = .bad)) N hA ch ?_ fun ea C' h tk hC r => ?_)
  rotate_left
  · rcases hC with ⟨rfl, hc⟩ | ⟨rfl, hc⟩
    · refine ClauseE (b := true) k_ShortOctets N r (by kernel_rfl) (fun _ h S => ?_) fun e => by cases e
      refine execs_consP (ReturnTup S (.two .int .int) (fun _ => two_le) fun vs y h tk hv S ne => ?_)
      obtain ⟨u, v, rfl, hu, hv⟩ := hv
      exact k y u v led h tk (by rw [hc]; exact hu) (by rw [hc]; exact hv) (ch.ret S) (by rw [hc]; exact C) (fun r hr _ => hr) ne
    · refine ClauseE (b := false) k_ShortOctets N r (by kernel_rfl) (fun e => by cases e) fun _ => ?_
      refine ClauseE (b := true) k_Corrupt N r (by kernel_rfl) (fun _ h S => ?_) fun e => by cases e
      refine execs_consP (ReturnTup S (.two .int .int) (fun _ => two_le) fun vs y h tk hv S ne => ?_)
      obtain ⟨u, v, rfl, hu, hv⟩ := hv
      exact k y u v led h tk (by rw [hc]; exact hu) (by rw [hc]; exact hv) (ch.ret S) (by rw [hc]; exact C) (fun r hr _ => hr) ne
  obtain ⟨es, nn, tt, md, g1, g2, g3, g4⟩ := C.dct
  refine execs_consP (IfE S (.eq (.locI N (.tail .head) rfl) .int) (fun hb h tk S => ?_) (fun hb h tk S => ?_))
  · have e : kind = 0 := by simp at hb; omega
    subst e
    refine execs_consP (ReturnP (TupleP (spliced_consP (Ev.int.go S fun u h tk hu S => spliced_consP (MethC S (.loc N .head rfl) C.inst md me_Cursor_octet (g4.none (by decide)) .nil (fun vs h tk hv' S => ?_) _)))))
    subst hv'
    refine m_octet S hA.le C hl (by omega) hp ⟨fun v k' e u' led' h tk hu' S C' kp => spliced_nilP (newTupleP S (show 2 ≤ 1000 by decide) fun y h tk S ne => ?_), fun e ea h tk r => ⟨ea, 61, h, tk, rfl, rfl, r, .inl ⟨rfl, e⟩⟩, fun e ea h tk r => ⟨ea, 49, h, tk, rfl, rfl, r, .inr ⟨rfl, e⟩⟩⟩
    have e : look 0 n (l.drop p) = .ok v k' := e
    exact k y u u' led' h tk (by rw [e]; exact hu) (by rw [e]; exact hu') (ch.ret S) (by rw [e]; exact C') kp ne
  refine execs_nilP ?_
  have n0 : kind ≠ 0 := by simp at hb; omega
  clear hb
  refine execs_consP (IfE S (.eq (.locI N (.tail .head) rfl) .int) (fun hb h tk S => ?_) (fun hb h tk S => ?_))
  · have e : kind = 1 := by simp at hb; omega
    subst e
    refine execs_consP (ReturnP (TupleP (spliced_consP (Ev.int.go S fun u h tk hu S => spliced_consP (MethC S (.loc N .head rfl) C.inst md me_Cursor_varint (g4.none (by decide)) .nil (fun vs h tk hv' S => ?_) _)))))
    subst hv'
    refine m_varint S hA.le C hl (by omega) ⟨fun v k' e u' led' h tk hu' S C' kp => spliced_nilP (newTupleP S (show 2 ≤ 1000 by decide) fun y h tk S ne => ?_), fun e ea h tk r => ⟨ea, 61, h, tk, rfl, rfl, r, .inl ⟨rfl, e⟩⟩, fun e ea h tk r => ⟨ea, 49, h, tk, rfl, rfl, r, .inr ⟨rfl, e⟩⟩⟩
    have e : look 1 n (l.drop p) = .ok v k' := e
    exact k y u u' led' h tk (by rw [e]; exact hu) (by rw [e]; exact hu') (ch.ret S) (by rw [e]; exact C') kp ne
  refine execs_nilP ?_
  have n1 : kind ≠ 1 := by simp at hb; omega
  clear hb
  refine execs_consP (IfE S (.eq (.locI N (.tail .head) rfl) .int) (fun hb h tk S => ?_) (fun hb h tk S => ?_))
  · have e : kind = 2 := by simp at hb; omega
    subst e
    refine execs_consP (ReturnP (TupleP (spliced_consP (Ev.int.go S fun u h tk hu S => spliced_consP (MethC S (.loc N .head rfl) C.inst md me_Cursor_flag (g4.none (by decide)) .nil (fun vs h tk hv' S => ?_) _)))))
    subst hv'
    refine m_flag S hA.le C hl (by omega) hp ⟨fun v k' e u' led' h tk hu' S C' kp => spliced_nilP (newTupleP S (show 2 ≤ 1000 by decide) fun y h tk S ne => ?_), fun e ea h tk r => ⟨ea, 61, h, tk, rfl, rfl, r, .inl ⟨rfl, e⟩⟩, fun e ea h tk r => ⟨ea, 49, h, tk, rfl, rfl, r, .inr ⟨rfl, e⟩⟩⟩
    have e : look 2 n (l.drop p) = .ok v k' := e
    exact k y u u' led' h tk (by rw [e]; exact hu) (by rw [e]; exact hu') (ch.ret S) (by rw [e]; exact C') kp ne
  refine execs_nilP ?_
  have n2 : kind ≠ 2 := by simp at hb; omega
  clear hb
  refine execs_consP (IfE S (.eq (.locI N (.tail .head) rfl) .int) (fun hb h tk S => ?_) (fun hb h tk S => ?_))
  · have e : kind = 3 := by simp at hb; omega
    subst e
    refine execs_consP (ReturnP (TupleP (spliced_consP (Ev.int.go S fun u h tk hu S => spliced_consP (MethC S (.loc N .head rfl) C.inst md me_Cursor_fixed32 (g4.none (by decide)) .nil (fun vs h tk hv' S => ?_) _)))))
    subst hv'
    refine m_fixed32 S hA.le C hl (by omega) hp ⟨fun v k' e u' led' h tk hu' S C' kp => spliced_nilP (newTupleP S (show 2 ≤ 1000 by decide) fun y h tk S ne => ?_), fun e ea h tk r => ⟨ea, 61, h, tk, rfl, rfl, r, .inl ⟨rfl, e⟩⟩, fun e ea h tk r => ⟨ea, 49, h, tk, rfl, rfl, r, .inr ⟨rfl, e⟩⟩⟩
    have e : look 3 n (l.drop p) = .ok v k' := e
    exact k y u u' led' h tk (by rw [e]; exact hu) (by rw [e]; exact hu') (ch.ret S) (by rw [e]; exact C') kp ne
  refine execs_nilP ?_
  have n3 : kind ≠ 3 := by simp at hb; omega
  clear hb
  refine execs_consP (IfE S (.eq (.locI N (.tail .head) rfl) .int) (fun hb h tk S => ?_) (fun hb h tk S => ?_))
  · have e : kind = 4 := by simp at hb; omega
    subst e
    refine execs_consP (ReturnP (TupleP (spliced_consP (Ev.int.go S fun u h tk hu S => spliced_consP (MethC S (.loc N .head rfl) C.inst md me_Cursor_fixed64 (g4.none (by decide)) .nil (fun vs h tk hv' S => ?_) _)))))
    subst hv'
    refine m_fixed64 S hA.le C hl (by omega) hp ⟨fun v k' e u' led' h tk hu' S C' kp => spliced_nilP (newTupleP S (show 2 ≤ 1000 by decide) fun y h tk S ne => ?_), fun e ea h tk r => ⟨ea, 61, h, tk, rfl, rfl, r, .inl ⟨rfl, e⟩⟩, fun e ea h tk r => ⟨ea, 49, h, tk, rfl, rfl, r, .inr ⟨rfl, e⟩⟩⟩
    have e : look 4 n (l.drop p) = .ok v k' := e
    exact k y u u' led' h tk (by rw [e]; exact hu) (by rw [e]; exact hu') (ch.ret S) (by rw [e]; exact C') kp ne
  refine execs_nilP ?_
  have n4 : kind ≠ 4 := by simp at hb; omega
  clear hb
  refine execs_consP (IfE S (.eq (.locI N (.tail .head) rfl) .int) (fun hb h tk S => ?_) (fun hb h tk S => ?_))
  · have e : kind = 5 := by simp at hb; omega
    subst e
    refine execs_consP (ReturnP (TupleP (spliced_consP (Ev.int.go S fun u h tk hu S => spliced_consP (MethC S (.loc N .head rfl) C.inst md me_Cursor_lengthed (g4.none (by decide)) .nil (fun vs h tk hv' S => ?_) _)))))
    subst hv'
    refine m_lengthed S hA.le C hl (by omega) hp ⟨fun v k' e u' led' h tk hu' S C' kp => spliced_nilP (newTupleP S (show 2 ≤ 1000 by decide) fun y h tk S ne => ?_), fun e ea h tk r => ⟨ea, 61, h, tk, rfl, rfl, r, .inl ⟨rfl, e⟩⟩, fun e ea h tk r => ⟨ea, 49, h, tk, rfl, rfl, r, .inr ⟨rfl, e⟩⟩⟩
    have e : look 5 n (l.drop p) = .ok v k' := e
    exact k y u u' led' h tk (by rw [e]; exact hu) (by rw [e]; exact hu') (ch.ret S) (by rw [e]; exact C') kp ne
  refine execs_nilP ?_
  have n5 : kind ≠ 5 := by simp at hb; omega
  clear hb
  have e : kind = 6 := by omega
  subst e
  refine execs_consP (ReturnP (TupleP (spliced_consP (Ev.int.go S fun u h tk hu S => spliced_consP (MethC S (.loc N .head rfl) C.inst md me_Cursor_take (g4.none (by decide)) (.one (.loc N (.tail (.tail .head)) rfl)) (fun vs h tk hv' S => ?_) _)))))
  obtain ⟨_, rfl, rfl⟩ := hv'
  refine m_take S hA.le C hl (by omega) hp hn ⟨fun v k' e u' led' h tk hu' S C' kp => spliced_nilP (newTupleP S (show 2 ≤ 1000 by decide) fun y h tk S ne => ?_), fun e ea h tk r => ⟨ea, 61, h, tk, rfl, rfl, r, .inl ⟨rfl, e⟩⟩, fun e ea h tk r => ⟨ea, 49, h, tk, rfl, rfl, r, .inr ⟨rfl, e⟩⟩⟩
  have e : look 6 n (l.drop p) = .ok v k' := e
  exact k y u u' led' h tk (by rw [e]; exact hu) (by rw [e]; exact hu') (ch.ret S) (by rw [e]; exact C') kp ne
end
end Mine

end
section
set_option maxRecDepth 100000
open PySem PySem.W PySem.Calls PyProof.Rows
open Sem (wp)
set_option Elab.async false
set_option linter.unusedVariables false
namespace Mine
theorem sum_cast (f : Nat → Nat) : ∀ l : List Nat, (l.map fun j => ((f j : Nat) : Int)).sum = (((l.map f).sum : Nat) : Int)
  | [] => rfl
  | x :: r => by simp only [List.map_cons, List.sum_cons, sum_cast f r]; omega
theorem upto_sum {n : Nat} {f : Int → Int} {g : Nat → Nat} (h : ∀ j : Nat, j < n → f j = (g j : Int)) : ((upto n).map f).sum = ((((List.range n).map g).sum : Nat) : Int) := by
  rw [upto_map h, ← sum_cast]
  rw [List.map_map]; rfl
theorem lev_sum' (l : List Nat) : ((List.range l.length).map fun j => l.getD j 0 * 256 ^ j).sum = lev l := by
  have h := lev_sum l
  have e : (fun j : Nat => ((l.getD j 0 : Nat) : Int) * (256 : Int) ^ j) = fun j => ((l.getD j 0 * 256 ^ j : Nat) : Int) := by
    funext j; rw [Int.natCast_mul, Int.natCast_pow]; rfl
  rw [e, sum_cast] at h
  omega
section
variable {W : Wd} {A : Around} {E : Value → Shared → Prop} {a a' : Act} {xs ys : List Str} {ρ ρ' : List (Option Value)} {led led' : List (Addr × Obj)} {h : Heap} {G : Array GenState} {D : Drawn} {tk : Nat} {O : OsState} {env : Env}
theorem three_le {vs : List Value} {P P' P'' : Value → Prop} (h : ∃ v u s, vs = [v, u, s] ∧ P v ∧ P' u ∧ P'' s) : vs.length ≤ 1000 := by obtain ⟨v, u, s, rfl, _⟩ := h; exact Nat.le_of_ble_eq_true rfl
theorem EvL.three {e f g : Expr} {P P' P'' : Value → Prop} (he : Ev W A env a xs ρ led e P) (hf : Ev W A env a xs ρ led f P') (hg : Ev W A env a xs ρ led g P'') (hp : starEach [e, f, g] env = (false, eval e env) :: starEach [f, g] env := by rfl) (hp' : starEach [f, g] env = (false, eval f env) :: starEach [g] env := by rfl) (hp'' : starEach [g] env = [(false, eval g env)] := by rfl) :
    EvL W A env a xs ρ led [e, f, g] (fun vs => ∃ v u s, vs = [v, u, s] ∧ P v ∧ P' u ∧ P'' s) :=
  ⟨fun S q => (EvL.cons he (.cons hf (.cons hg .nil hp'') hp') hp).go S fun vs h' tk' ⟨v, r, e1, p, u, r', e2, p', s, r'', e3, p'', e4⟩ S' => q vs h' tk' ⟨v, u, s, by rw [e1, e2, e3, e4], p, p', p''⟩ S'⟩
theorem sumCall {e : Expr} {np cp : Pos} {i : Int} {Q : Value → Shared → Prop} (N : EnvOK env a xs) (S : St W a xs ρ led h) (hh : A.handled = none) (g : GV W "sum" (.builtin "sum"))
    (he : ∀ {h tk} {Q' : Value → Shared → Prop}, St W a xs ρ led h → (∀ y vs ns k h tk, ns.sum = i → IntsAre vs ns → St W a xs ρ ((y, lstO vs k) :: led) h → Q' (.ref y) ⟨h, G, D, tk, O⟩) → wpP W.M A (eval e env) Q' E ⟨h, G, D, tk, O⟩)
    (q : ∀ t h' tk', St W a xs ρ led h' → Q (.int i t) ⟨h', G, D, tk', O⟩)
    (hx : (env.kindOf "sum" == some .globalImplicit && !(("sum" : Str) == ("__debug__" : Str))) = true := by kernel_rfl) (hp : starEach [e] env = [(false, eval e env)] := by rfl) :
    wpP W.M A (eval (.Call (.Name "sum" np) [e] [] cp) env) Q E ⟨h, G, D, tk, O⟩ := by
  refine CallNameP N S g rfl (fun h tk S => ?_) hx (by rw [hp]; rfl)
  refine spliced_consP (he S fun y vs ns k h tk hs hi S => spliced_nilP ⟨S.X, ?_⟩) hp
  subst hs
  exact up (sum_ints S (.head _) hi hh fun t h tk S => q t h tk (S.onLed fun p hp => .tail _ hp))
end
section
variable {w : World} {A : Around} {E : Value → Shared → Prop} {a : Act} {xs : List Str} {ρ : List (Option Value)} {led : List (Addr × Obj)} {h : Heap} {G : Array GenState} {D : Drawn} {tk : Nat} {O : OsState} {R : Result → Shared → Prop} {dv : Value} {l : List Nat}

theorem c_lnumber {m lim : Nat} {t1 t2 : Tok} (S : St (W0 w) a xs ρ led h) (hA : AOK A a 9) (hd : IsB l dv) (hl : ∀ x ∈ l, x < 256) (hz : l.length ≤ 100000) (hm : m ≤ 10)
    (k : ∀ y u v s h' tk', IsI (number m lim l).ans.code u → (number m lim l).ans.dv.Is v → IsI (number m lim l).ans.size s → St (W0 w) a xs ρ ((y, tupO [u, v, s]) :: led) h' → (∀ r ∈ led, r.1 ≠ y) → R (.ok (.ret (.ref y))) ⟨h', G, D, tk', O⟩) :
    codeP (W0 w).M A (.call (.ref 376) ⟨[dv, .int m t1, .int lim t2], []⟩) R ⟨h, G, D, tk, O⟩ := by
  refine fnCQ 8 [("octets", dv), ("most", .int m t1), ("limit", .int lim t2)] ["most", "limit", "upto", "n"] [some (.int m t1), some (.int lim t2), none, none] "octets" (some dv) S hA rfl (by kernel_rfl) (.of_eq (by kernel_rfl)) (by kernel_rfl) (fun _ => rfl) (by kernel_rfl) (by kernel_rfl) fun a' h₁ tk₁ c o ch N hc ho hne S hA => ?_
  unfold Body
  obtain ⟨hr1, hr2⟩ := reach_le m l
  have hscan := scan_reach m l
  refine execs_consP (SetE N S .int (.tail (.tail .head)) fun v h tk ⟨t3, hv⟩ S => ?_)
  subst hv
  refine execs_consP (WhileP (fun k ρ' led' => ∃ (i : Nat) (t3 : Tok), k = reach m l - i ∧ i ≤ reach m l ∧ ρ' = [some (.int m t1), some (.int lim t2), some (.int i t3), none] ∧ led' = (c, o) :: led) _ S
    ⟨0, t3, rfl, by omega, rfl, rfl⟩ (fun r ρ led₁ h tk ⟨i, t3, hk, hi, hρ, hled⟩ S => ?_))
  subst hk hρ hled
  by_cases hir : i < reach m l
  · have h128 := reach_in hir
    refine (EvB.cast (c := true) (.bop (.and (.lt (.locI N (.tail (.tail .head)) rfl) (.lenOct N g_len ((Ev.cell N hc (.head _) ho).mono fun v e => e ▸ IsB.oct hd) (by omega))) fun _ => .and (.lt (.locI N (.tail (.tail .head)) rfl) (.locI N .head rfl)) fun _ => .and (.ge (.itemOct ((Ev.cell N hc (.head _) ho).mono fun v e => e ▸ IsB.oct hd) (.locI N (.tail (.tail .head)) rfl) hl (by omega) (by omega) (by omega)) .int) fun _ => .nilAnd)) (by rw [Int.toNat_natCast]; simp only [Bool.and_eq_true, decide_eq_true_eq, and_true]; omega)).go S fun h tk S => ?_
    rw [if_pos rfl]
    refine execs_consP (AugAdd N S (.tail (.tail .head)) rfl .int fun t4 h tk S => ?_)
    have e : (i : Int) + 1 = ((i + 1 : Nat) : Int) := by omega
    rw [e] at S
    exact execs_nilP ⟨reach m l - (i + 1), _, _, h, tk, by omega, rfl, S, i + 1, t4, rfl, by omega, rfl, rfl⟩
  · have hie : i = reach m l := by omega
    refine (EvB.cast (c := false) (.bop (.and (.lt (.locI N (.tail (.tail .head)) rfl) (.lenOct N g_len ((Ev.cell N hc (.head _) ho).mono fun v e => e ▸ IsB.oct hd) (by omega))) fun hb => .and (.lt (.locI N (.tail (.tail .head)) rfl) (.locI N .head rfl)) fun _ => .and (.ge (.itemOct ((Ev.cell N hc (.head _) ho).mono fun v e => e ▸ IsB.oct hd) (.locI N (.tail (.tail .head)) rfl) hl (by omega) (by omega) (of_decide_eq_true hb)) .int) fun _ => .nilAnd)) (by
        rw [Int.toNat_natCast]
        by_cases c1 : reach m l < m
        · by_cases c2 : reach m l < l.length
          · have := reach_at c1 c2
            rw [← hie] at this
            simp only [Bool.and_eq_false_iff, decide_eq_false_iff_not, Bool.true_eq_false, or_false]; omega
          · simp only [Bool.and_eq_false_iff, decide_eq_false_iff_not, Bool.true_eq_false, or_false]; omega
        · simp only [Bool.and_eq_false_iff, decide_eq_false_iff_not, Bool.true_eq_false, or_false]; omega)).go S fun h tk S => ?_
    rw [if_neg (by decide)]
    refine execs_consP (IfE S (.eq (.locI N (.tail (.tail .head)) rfl) (.locI N .head rfl)) (fun hb h tk S => ?_) (fun hb h tk S => ?_))
    · have e1 : reach m l = m := by simp at hb; omega
      rw [if_pos e1] at hscan
      refine execs_consP (ReturnTup S (.three .int .int .int) (fun _ => three_le) fun vs y h tk hv S ne => ?_)
      obtain ⟨u, v, s, rfl, hu, hv, hs⟩ := hv
      have hnum : number m lim l = .bad := by unfold number; rw [hscan]; rfl
      refine k y u v s h tk (by rw [hnum]; exact hu) (by rw [hnum]; exact hv) (by rw [hnum]; exact hs) ((ch.ret S).onLed fun p hp => ?_) fun r hr => ne r (.tail _ hr)
      rcases List.mem_cons.mp hp with rfl | hp
      · exact .head _
      · exact .tail _ (.tail _ hp)
    refine execs_nilP ?_
    have n1 : ¬ reach m l = m := by simp at hb; omega
    rw [if_neg n1] at hscan
    clear hb
    refine execs_consP (IfE S (.eq (.locI N (.tail (.tail .head)) rfl) (.lenOct N g_len ((Ev.cell N hc (.head _) ho).mono fun v e => e ▸ IsB.oct hd) (by omega))) (fun hb h tk S => ?_) (fun hb h tk S => ?_))
    · have e2 : reach m l = l.length := by simp at hb; omega
      rw [if_pos e2] at hscan
      refine execs_consP (ReturnTup S (.three .int .int .int) (fun _ => three_le) fun vs y h tk hv S ne => ?_)
      obtain ⟨u, v, s, rfl, hu, hv, hs⟩ := hv
      have hnum : number m lim l = .short := by unfold number; rw [hscan]; rfl
      refine k y u v s h tk (by rw [hnum]; exact hu) (by rw [hnum]; exact hv) (by rw [hnum]; exact hs) ((ch.ret S).onLed fun p hp => ?_) fun r hr => ne r (.tail _ hr)
      rcases List.mem_cons.mp hp with rfl | hp
      · exact .head _
      · exact .tail _ (.tail _ hp)
    refine execs_nilP ?_
    have n2 : ¬ reach m l = l.length := by simp at hb; omega
    rw [if_neg n2] at hscan
    clear hb
    have hlt : i < l.length := by omega
    rw [← hie] at hscan
    refine execs_consP (AssignNameP (sumCall (i := (((((List.range (i + 1)).map fun j => l.getD j 0 % 128 * 128 ^ j).sum : Nat)) : Int)) N S hA.hd g_sum (fun {h tk Q'} S q => ?_) fun t h tk S => storeL S (.tail (.tail (.tail .head))) N.loc N.kind N.names fun h tk S => ?_))
    · refine CompRange (n := i + 1) (f := fun j => ((l.getD j.toNat 0 % 128 * 128 ^ j.toNat : Nat) : Int)) N S hA.hd g_range (EA.castI (.add (.isI (.locS S N (.tail (.tail .head)) rfl) rfl) .int) (by omega)) (by omega) (clos1 (j := "j") (by rfl) hc) rfl (by kernel_rfl) (by kernel_rfl)
        (fun C j t h₃ m₃ G D O hns hm hj hled => EA.castI (.mul (.modN (j := 128) (EA.castI (.itemB ((EA.cell (by kernel_rfl) (by kernel_rfl) (by simp [compEnvC]) (hled _ (.head _)) ho).mono fun v e => e ▸ hd) (.isI (.loc (by kernel_rfl) (by kernel_rfl) hns hm) rfl) hl (by omega) (by omega) (by omega)) (by rw [Int.toNat_natCast])) .int (by decide)) (.castI (.pow .int (.isI (.loc (by kernel_rfl) (by kernel_rfl) hns hm) rfl) (by omega) (by omega) (by decide)) (pow128 j)) (.of_left (bits_nat (by omega)))) (by rw [Int.toNat_natCast, Int.natCast_mul])) fun y ws k h tk S hws => ?_
      exact q y ws _ k h tk (upto_sum fun j hj => by simp) hws S
    generalize hn : ((List.range (i + 1)).map fun j => l.getD j 0 % 128 * 128 ^ j).sum = n at hscan S
    refine execs_consP (IfE S (.ge (.locI N (.tail (.tail (.tail .head))) rfl) (.locI N (.tail .head) rfl)) (fun hb h tk S => ?_) (fun hb h tk S => ?_))
    · have e3 : lim ≤ n := by simp at hb; omega
      refine execs_consP (ReturnTup S (.three .int .int .int) (fun _ => three_le) fun vs y h tk hv S ne => ?_)
      obtain ⟨u, v, s, rfl, hu, hv, hs⟩ := hv
      have hnum : number m lim l = .bad := by unfold number; rw [hscan]; simp only [Out.limit]; rw [if_pos e3]
      refine k y u v s h tk (by rw [hnum]; exact hu) (by rw [hnum]; exact hv) (by rw [hnum]; exact hs) ((ch.ret S).onLed fun p hp => ?_) fun r hr => ne r (.tail _ hr)
      rcases List.mem_cons.mp hp with rfl | hp
      · exact .head _
      · exact .tail _ (.tail _ hp)
    · refine execs_nilP ?_
      have e3 : ¬ lim ≤ n := by simp at hb; omega
      refine execs_consP (ReturnTup S (.three .int (.locI N (.tail (.tail (.tail .head))) rfl) (.add (.locI N (.tail (.tail .head)) rfl) .int)) (fun _ => three_le) fun vs y h tk hv S ne => ?_)
      obtain ⟨u, v, s, rfl, hu, hv, hs⟩ := hv
      have hnum : number m lim l = .val n (i + 1) := by unfold number; rw [hscan]; simp only [Out.limit]; rw [if_neg e3]
      refine k y u v s h tk (by rw [hnum]; exact hu) (by rw [hnum]; exact hv) (by rw [hnum]; exact hs) ((ch.ret S).onLed fun p hp => ?_) fun r hr => ne r (.tail _ hr)
      rcases List.mem_cons.mp hp with rfl | hp
      · exact .head _
      · exact .tail _ (.tail _ hp)
end
end Mine

end
section
set_option maxRecDepth 100000
open PySem PySem.W PySem.Calls PyProof.Rows
open Sem (wp)
set_option Elab.async false
set_option linter.unusedVariables false
namespace Mine
structure LookMid (kind : Nat) (n : Int) (l : List Nat) (sk : Nat) (sz : Int) : Prop where
  short : sz < 0 ∨ (l.length : Int) < sk + sz → look kind n l = .short
  big : ∀ z : Nat, sz = z → sk + z ≤ l.length → kind > 4 → look kind n l = .ok (.byt ((l.drop sk).take z)) (sk + z)
  num : ∀ z : Nat, sz = z → sk + z ≤ l.length → kind ≤ 4 → sk = 0 ∧ z ≤ 8 ∧ (kind = 2 → look kind n l = if 1 < lev (l.take z) then .bad else .ok (.bool (lev (l.take z) == 1)) 1) ∧ (kind ≠ 2 → look kind n l = .ok (.int (lev (l.take z) : Nat)) z)
theorem midN {kind w : Nat} {n : Int} {l : List Nat} (h : look kind n l = lookN l w) (h2 : kind ≠ 2) (h4 : kind ≤ 4) (hw : w ≤ 8) : LookMid kind n l 0 w where
  short h' := by rw [h]; unfold lookN; rw [if_pos (by omega)]
  big z hz hl hk := by omega
  num z hz hl hk := by
    have : w = z := by omega
    subst this
    refine ⟨rfl, hw, fun e => absurd e h2, fun _ => ?_⟩
    rw [h]; unfold lookN; rw [if_neg (by omega)]
theorem mid2 {n : Int} {l : List Nat} : LookMid 2 n l 0 1 where
  short h' := by
    have : l = [] := List.eq_nil_of_length_eq_zero (by omega)
    subst this; rfl
  big z hz hl hk := by omega
  num z hz hl hk := by
    have : z = 1 := by omega
    subst this
    cases l with
    | nil => simp at hl
    | cons x r =>
      refine ⟨rfl, by decide, fun _ => ?_, fun e => absurd rfl e⟩
      show (if 1 < x then Ans.bad else .ok (.bool (x == 1)) 1) = _
      have : lev (List.take 1 (x :: r)) = x := by simp [lev]
      rw [this]
theorem mid6 {n : Int} {l : List Nat} : LookMid 6 n l 0 n where
  short h' := by show lookT n l = _; unfold lookT; rw [if_pos (by omega)]
  big z hz hl hk := by
    subst hz
    show lookT z l = _; unfold lookT; rw [if_neg (by omega), Int.toNat_natCast, List.drop_zero, Nat.zero_add]
  num z hz hl hk := by omega
theorem mid5 {n : Int} {l : List Nat} {m k : Nat} (e : number 5 4294967296 l = .val m k) : LookMid 5 n l k m where
  short h' := by show lookL l = _; unfold lookL; rw [e]; dsimp only; rw [if_pos (by omega)]
  big z hz hl hk := by
    have : m = z := by omega
    subst this
    show lookL l = _; unfold lookL; rw [e]; dsimp only; rw [if_neg (by omega)]
  num z hz hl hk := by omega
theorem mid_of {kind : Nat} (n : Int) (l : List Nat) (hk : kind < 7) (h1 : kind ≠ 1) (h5 : kind ≠ 5) : LookMid kind n l 0 (([1, 0, 1, 4, 8, 0, n] : List Int).getD kind 0) := by
  match kind, hk, h1, h5 with
  | 0, _, _, _ => exact midN (w := 1) rfl (by decide) (by decide) (by decide)
  | 2, _, _, _ => exact mid2
  | 3, _, _, _ => exact midN (w := 4) rfl (by decide) (by decide) (by decide)
  | 4, _, _, _ => exact midN (w := 8) rfl (by decide) (by decide) (by decide)
  | 6, _, _, _ => exact mid6
theorem menu_small {kind : Nat} {n : Int} (hk : kind < 7) (hn : n.natAbs < 2 ^ 60) : (([1, 0, 1, 4, 8, 0, n] : List Int).getD kind 0).natAbs < 2 ^ 60 := by
  match kind, hk with
  | 0, _ => show Int.natAbs 1 < 2 ^ 60; decide
  | 1, _ => show Int.natAbs 0 < 2 ^ 60; decide
  | 2, _ => show Int.natAbs 1 < 2 ^ 60; decide
  | 3, _ => show Int.natAbs 4 < 2 ^ 60; decide
  | 4, _ => show Int.natAbs 8 < 2 ^ 60; decide
  | 5, _ => show Int.natAbs 0 < 2 ^ 60; decide
  | 6, _ => exact hn
theorem ans_code_pos {o : Out} : (0 < o.ans.code) = (∀ n k, o ≠ .val n k) := by
  cases o with
  | val n k => simp [Out.ans, Ans.code]
  | short => simp [Out.ans, Ans.code]
  | bad => simp [Out.ans, Ans.code]

section
variable {w : World} {A : Around} {E : Value → Shared → Prop} {a : Act} {xs : List Str} {ρ : List (Option Value)} {led : List (Addr × Obj)} {h : Heap} {G : Array GenState} {D : Drawn} {tk : Nat} {O : OsState} {R : Result → Shared → Prop} {dv : Value} {l : List Nat}

theorem c_llook {kind : Nat} {n : Int} {t1 t2 : Tok} (S : St (W0 w) a xs ρ led h) (hA : AOK A a 12) (hd : IsB l dv) (hl : ∀ x ∈ l, x < 256) (hz : l.length ≤ 50000) (hk : kind < 7) (hn : n.natAbs < 2 ^ 60)
    (k : ∀ y u v s h' tk', IsI (look kind n l).code u → (look kind n l).dv.Is v → IsI (look kind n l).size s → St (W0 w) a xs ρ ((y, tupO [u, v, s]) :: led) h' → (∀ r ∈ led, r.1 ≠ y) → R (.ok (.ret (.ref y))) ⟨h', G, D, tk', O⟩) :
    codeP (W0 w).M A (.call (.ref 381) ⟨[dv, .int kind t1, .int n t2], []⟩) R ⟨h, G, D, tk, O⟩ := by
  refine fnCQ 11 [("octets", dv), ("kind", .int kind t1), ("n", .int n t2)] ["octets", "kind", "n", "skip", "size", "code", "value"] [some dv, some (.int kind t1), some (.int n t2), none, none, none, none] "span" none S hA rfl (by kernel_rfl) (.of_eq (by kernel_rfl)) (by kernel_rfl) (fun _ => rfl) (by kernel_rfl) (by kernel_rfl) fun a' h₁ tk₁ c o ch N hc ho hne S hA => ?_
  unfold Body
  have drop2 : ∀ {y : Addr} {x : Obj} {led1 : List (Addr × Obj)}, (∀ r ∈ led, r ∈ led1) → ∀ r ∈ (y, x) :: led, r ∈ (y, x) :: led1 := fun hh r hr => by
    rcases List.mem_cons.mp hr with rfl | hr
    · exact .head _
    · exact .tail _ (hh r hr)
  refine execs_consP (IfE S (.eq (.locI N (.tail .head) rfl) .int) (fun hb h tk S => ?_) (fun hb h tk S => ?_))
  · have e : kind = 1 := by simp at hb; omega
    subst e
    refine execs_consP (ReturnP (CallE N S g__law_number rfl (.three (.loc N .head rfl) .int .int) fun vs h tk hv S => ?_))
    obtain ⟨_, _, _, rfl, rfl, ⟨t3, rfl⟩, ⟨t4, rfl⟩⟩ := hv
    exact callP (c_lnumber (m := 10) (lim := 18446744073709551616) S hA.le hd hl (by omega) (by decide) fun y u v s h tk hu hv hs S ne => k y u v s h tk hu hv hs ((ch.ret S).onLed (drop2 fun r hr => .tail _ hr)) fun r hr => ne r (.tail _ hr))
  refine execs_nilP ?_
  have n1 : kind ≠ 1 := by simp at hb; omega
  clear hb
  refine execs_consP (SetE N S .int (.tail (.tail (.tail .head))) fun v h tk ⟨t3, hv⟩ S => ?_)
  subst hv
  refine execs_consP (SetE N S (.menu (is := [1, 0, 1, 4, 8, 0, n]) (EvIs.cons .int (EvIs.cons .int (EvIs.cons .int (EvIs.cons .int (EvIs.cons .int (EvIs.cons .int (EvIs.cons (.locI N (.tail (.tail .head)) rfl) EvIs.nil))))))) (fun y o => .locI N (.tail .head) rfl) hk (show 7 ≤ 1000 by decide)) (.tail (.tail (.tail (.tail .head)))) fun v h tk ⟨t4, hv⟩ S => ?_)
  subst hv
  refine execs_consP (monoP (Q := fun f s => (f = .next ∧ ∃ (sk : Nat) (sz : Int) (t3 t4 : Tok) (x : Option Value) (h : Heap) (tk : Nat), s = ⟨h, G, D, tk, O⟩ ∧ sk ≤ 50000 ∧ sz.natAbs < 2 ^ 60 ∧ St (W0 w) a' ["octets", "kind", "n", "skip", "size", "code", "value"] [some dv, some (.int kind t1), some (.int n t2), some (.int sk t3), some (.int sz t4), x, none] ((c, o) :: led) h ∧ LookMid kind n l sk sz) ∨ (∃ v, f = .ret v ∧ R (.ok (.ret v)) s))
    (IfE S (.eq (.locI N (.tail .head) rfl) .int) (fun hb h tk S => ?_) (fun hb h tk S => ?_)) (fun f s z => ?_) fun _ _ z => z)
  · have e : kind = 5 := by simp at hb; omega
    subst e
    refine execs_consP (SetTupleP (CallE N S g__law_number rfl (.three (.loc N .head rfl) .int .int) fun vs h tk hv S => ?_))
    obtain ⟨_, _, _, rfl, rfl, ⟨t5, rfl⟩, ⟨t6, rfl⟩⟩ := hv
    refine callP (c_lnumber (m := 5) (lim := 4294967296) S hA.le hd hl (by omega) (by decide) fun y u v s h tk hu hv hs S ne => ?_)
    refine tupleP S hA.hd (.head _) rfl rfl fun h S => ?_
    refine inOrder_consP (targetP N S (.tail (.tail (.tail (.tail (.tail .head))))) fun h tk S => inOrder_consP (targetP N S (.tail (.tail (.tail (.tail .head)))) fun h tk S => inOrder_consP (targetP N S (.tail (.tail (.tail .head))) fun h tk S => inOrder_nilP ?_)))
    have S := S.onLed (led' := (c, o) :: led) fun p hp => .tail _ hp
    obtain ⟨t7, rfl⟩ := hu
    refine execs_consP (IfE S (.gt (.locI N (.tail (.tail (.tail (.tail (.tail .head))))) rfl) .int) (fun hb h tk S => ?_) (fun hb h tk S => ?_))
    · have hcode : 0 < (number 5 4294967296 l).ans.code := by simpa using hb
      refine execs_consP (ReturnTup S (.three (.locI N (.tail (.tail (.tail (.tail (.tail .head))))) rfl) .int .int) (fun _ => three_le) fun vs y h tk hv S ne => ?_)
      obtain ⟨u, v, s, rfl, hu, hv, hs⟩ := hv
      refine .inr ⟨_, rfl, k y u v s h tk ?_ ?_ ?_ ((ch.ret S).onLed (drop2 fun r hr => .tail _ hr)) fun r hr => ne r (.tail _ hr)⟩
      all_goals
        show _
        have e2 : look 5 n l = lookL l := rfl
        rw [e2]
        unfold lookL
        cases hnum : number 5 4294967296 l with
        | val m k => rw [hnum] at hcode; exact absurd hcode (by simp [Out.ans, Ans.code])
        | short => rw [hnum] at hu; first | exact hu | exact hv | exact hs
        | bad => rw [hnum] at hu; first | exact hu | exact hv | exact hs
    · refine execs_nilP (execs_nilP ?_)
      cases hnum : number 5 4294967296 l with
      | short => rw [hnum] at hb; simp [Out.ans, Ans.code] at hb
      | bad => rw [hnum] at hb; simp [Out.ans, Ans.code] at hb
      | val m kk =>
        rw [hnum] at hv hs S
        obtain ⟨t8, rfl⟩ := hv
        obtain ⟨t9, rfl⟩ := hs
        obtain ⟨q1, q2⟩ := number_val hnum
        have q3 := (scan_len q1).1
        exact .inl ⟨rfl, kk, m, t9, t8, _, h, tk, rfl, by omega, by omega, S, mid5 hnum⟩
  · have n5 : kind ≠ 5 := by simp at hb; omega
    exact execs_nilP (.inl ⟨rfl, 0, _, t3, t4, none, h, tk, rfl, by omega, menu_small hk hn, S, mid_of n l hk n1 n5⟩)
  · rcases z with ⟨rfl, sk, sz, t3, t4, x, h, tk, rfl, hsk, hszb, S, M⟩ | ⟨v, rfl, hR⟩
    rotate_left
    · exact hR
    refine execs_consP (IfE S (.bop (.or (.lt (.locI N (.tail (.tail (.tail (.tail .head)))) rfl) .int) fun _ => .or (.gt (.add (.locI N (.tail (.tail (.tail .head))) rfl) (.locI N (.tail (.tail (.tail (.tail .head)))) rfl)) (.lenOct N g_len ((Ev.loc N .head rfl).mono fun v e => e ▸ IsB.oct hd) (by omega))) fun _ => .nilOr)) (fun hb h tk S => ?_) (fun hb h tk S => ?_))
    · have e := M.short (by simp at hb; omega)
      refine execs_consP (ReturnTup S (.three .int .int .int) (fun _ => three_le) fun vs y h tk hv S ne => ?_)
      obtain ⟨u, v, s, rfl, hu, hv, hs⟩ := hv
      exact k y u v s h tk (by rw [e]; exact hu) (by rw [e]; exact hv) (by rw [e]; exact hs) ((ch.ret S).onLed (drop2 fun r hr => .tail _ hr)) fun r hr => ne r (.tail _ hr)
    refine execs_nilP ?_
    obtain ⟨z, rfl⟩ := Int.eq_ofNat_of_zero_le (show 0 ≤ sz by simp at hb; omega)
    have hle : sk + z ≤ l.length := by simp at hb; omega
    have hsum : (sk : Int) + (z : Int) = ((sk + z : Nat) : Int) := by omega
    have hcut : cut (some (sk : Int)) (some ((sk : Int) + (z : Int))) l = (l.drop sk).take z := by rw [hsum, cut_two _ _ _ (by omega) hle, Nat.add_sub_cancel_left]
    have hspl : ((l.drop sk).take z).length = z := by rw [List.length_take, List.length_drop]; omega
    have hspx : ∀ x ∈ (l.drop sk).take z, x < 256 := fun x hx => hl x (List.mem_of_mem_drop (List.mem_of_mem_take hx))
    refine execs_consP (SetCell N S (.cutB ((Ev.loc N .head rfl).mono fun v e => e ▸ hd) (by omega) ⟨_, rfl, .locI N (.tail (.tail (.tail .head))) rfl⟩ ⟨_, rfl, .add (.locI N (.tail (.tail (.tail .head))) rfl) (.locI N (.tail (.tail (.tail (.tail .head)))) rfl)⟩) hc (.head _) ho fun sv o' h tk hsv ho' S => ?_)
    rw [hcut] at hsv
    have S := S.onLed (led' := (c, o') :: led) fun p hp => by
      rcases List.mem_cons.mp hp with rfl | hp
      · exact updL_self (.head _)
      · exact updL_ne (.tail _ hp) (hne p hp)
    refine execs_consP (IfE S (.gt (.locI N (.tail .head) rfl) .int) (fun hb h tk S => ?_) (fun hb h tk S => ?_))
    · have e := M.big z rfl hle (by simp at hb; omega)
      refine execs_consP (ReturnTup S (.three .int ((Ev.cell N hc (.head _) ho').mono fun v e => e ▸ hsv) (.add (.locI N (.tail (.tail (.tail .head))) rfl) (.locI N (.tail (.tail (.tail (.tail .head)))) rfl))) (fun _ => three_le) fun vs y h tk hv S ne => ?_)
      obtain ⟨u, v, s, rfl, hu, hv, hs⟩ := hv
      exact k y u v s h tk (by rw [e]; exact hu) (by rw [e]; exact hv) (by rw [e]; rw [hsum] at hs; exact hs) ((ch.ret S).onLed (drop2 fun r hr => .tail _ hr)) fun r hr => ne r (.tail _ hr)
    refine execs_nilP ?_
    obtain ⟨e0, hz8, m2, mn⟩ := M.num z rfl hle (by simp at hb; omega)
    clear hb
    subst e0
    rw [List.drop_zero] at hsv hspl hspx
    refine execs_consP (AssignNameP (sumCall (i := ((lev (l.take z) : Nat) : Int)) N S hA.hd g_sum (fun {h tk Q'} S q => ?_) fun t h tk S => storeL S (.tail (.tail (.tail (.tail (.tail (.tail .head)))))) N.loc N.kind N.names fun h tk S => ?_))
    · refine CompRange (n := z) (f := fun j => (((l.take z).getD j.toNat 0 * 256 ^ j.toNat : Nat) : Int)) N S hA.hd g_range (.isI (.locS S N (.tail (.tail (.tail (.tail .head)))) rfl) rfl) (by omega) (clos1 (j := "j") (by rfl) hc) rfl (by kernel_rfl) (by kernel_rfl)
        (fun C j t h₃ m₃ G D O hns hm hj hled => EA.castI (.mul (.itemB ((EA.cell (by kernel_rfl) (by kernel_rfl) (by simp [compEnvC]) (hled _ (.head _)) ho').mono fun v e => e ▸ hsv) (.isI (.loc (by kernel_rfl) (by kernel_rfl) hns hm) rfl) hspx (by omega) (by omega) (by omega)) (.castI (.pow .int (.isI (.loc (by kernel_rfl) (by kernel_rfl) hns hm) rfl) (by omega) (by omega) (by decide)) (pow256 j)) (.of_left (bits_nat (Nat.lt_trans (getD_lt hspx _) (by decide))))) (by rw [Int.toNat_natCast, Int.natCast_mul])) fun y ws k h tk S hws => ?_
      refine q y ws _ k h tk ?_ hws S
      rw [upto_sum (g := fun j => (l.take z).getD j 0 * 256 ^ j) (fun j hj => by simp)]
      have := lev_sum' (l.take z)
      rw [hspl] at this
      rw [this]
    generalize hlv : lev (l.take z) = lv at m2 mn S
    refine execs_consP (IfE S (.eq (.locI N (.tail .head) rfl) .int) (fun hb h tk S => ?_) (fun hb h tk S => ?_))
    · have e := m2 (by simp at hb; omega)
      clear hb
      refine execs_consP (IfE S (.gt (.locI N (.tail (.tail (.tail (.tail (.tail (.tail .head)))))) rfl) .int) (fun hb h tk S => ?_) (fun hb h tk S => ?_))
      · rw [if_pos (by simp at hb; omega)] at e
        refine execs_consP (ReturnTup S (.three .int .int .int) (fun _ => three_le) fun vs y h tk hv S ne => ?_)
        obtain ⟨u, v, s, rfl, hu, hv, hs⟩ := hv
        exact k y u v s h tk (by rw [e]; exact hu) (by rw [e]; exact hv) (by rw [e]; exact hs) ((ch.ret S).onLed (drop2 fun r hr => .tail _ hr)) fun r hr => ne r (.tail _ hr)
      · refine execs_nilP ?_
        rw [if_neg (by simp at hb; omega)] at e
        refine execs_consP (ReturnTup S (.three .int (.eq (.locI N (.tail (.tail (.tail (.tail (.tail (.tail .head)))))) rfl) .int) .int) (fun _ => three_le) fun vs y h tk hv S ne => ?_)
        obtain ⟨u, v, s, rfl, hu, hv, hs⟩ := hv
        refine k y u v s h tk (by rw [e]; exact hu) (by
          rw [e, hv]
          show Value.bool _ = Value.bool _
          congr 1
          rw [Bool.eq_iff_iff]; simp; omega) (by rw [e]; exact hs) ((ch.ret S).onLed (drop2 fun r hr => .tail _ hr)) fun r hr => ne r (.tail _ hr)
    · refine execs_nilP ?_
      have e := mn (by simp at hb; omega)
      refine execs_consP (ReturnTup S (.three .int (.locI N (.tail (.tail (.tail (.tail (.tail (.tail .head)))))) rfl) (.locI N (.tail (.tail (.tail (.tail .head)))) rfl)) (fun _ => three_le) fun vs y h tk hv S ne => ?_)
      obtain ⟨u, v, s, rfl, hu, hv, hs⟩ := hv
      exact k y u v s h tk (by rw [e]; exact hu) (by rw [e]; exact hv) (by rw [e]; exact hs) ((ch.ret S).onLed (drop2 fun r hr => .tail _ hr)) fun r hr => ne r (.tail _ hr)
end
end Mine

end
section
set_option maxRecDepth 100000
open PySem PySem.W PySem.Calls PyProof.Rows
open Sem (wp)
set_option Elab.async false
set_option linter.unusedVariables false
namespace Mine
/-! ## The law's draws and rows, in plain Lean -/
structure NumsOK (ns : List Int) : Prop where
  ne : ns ≠ []
  len : ns.length ≤ 14
  rng : ∀ x ∈ ns, 0 ≤ x ∧ x < 999983
theorem draw_nat {ns : List Int} (h : NumsOK ns) (i : Nat) (hi : i ≤ 20) : ∃ n : Nat, drawOf ns i = n ∧ n < 1000700 := by
  have hp : 0 < ns.length := List.length_pos_iff.mpr h.ne
  have hm : i % ns.length < ns.length := Nat.mod_lt _ hp
  have e : ns.getD (i % ns.length) 0 = ns[i % ns.length] := by rw [List.getD_eq_getElem?_getD, List.getElem?_eq_getElem hm]; rfl
  have hr := h.rng _ (List.getElem_mem hm)
  have hd : i / ns.length ≤ i := Nat.div_le_self _ _
  unfold drawOf
  rw [e]
  obtain ⟨m, hm⟩ := Int.eq_ofNat_of_zero_le hr.1
  rw [hm]
  exact ⟨m + 31 * (i / ns.length), by omega, by omega⟩
theorem nums_ok {ns : List Int} (h : (ns.take 14).map (fun x => x.fmod 999983) ≠ []) : NumsOK ((ns.take 14).map fun x => x.fmod 999983) where
  ne := h
  len := by rw [List.length_map, List.length_take]; omega
  rng x hx := by
    obtain ⟨y, _, rfl⟩ := List.mem_map.mp hx
    exact ⟨Int.fmod_nonneg_of_pos _ (by decide), Int.fmod_lt_of_pos _ (by decide)⟩
theorem nums_five : NumsOK [5] := ⟨by decide, by decide, fun x hx => by simp at hx; subst hx; decide⟩
theorem edges_small (j : Nat) : (edges.getD j 0).natAbs < 2 ^ 200 := by
  match j with
  | 0 | 1 | 2 | 3 | 4 | 5 | 6 | 7 | 8 | 9 | 10 | 11 => simp [edges]
  | j + 12 => simp [edges]
structure RowOK (q : Nat × DV) : Prop where
  kind : q.1 < 7
  fit : Fit q.1 q.2
  small : ∀ i, q.2 = .int i → i.natAbs < 2 ^ 200
theorem lawValue_ok {kind z : Nat} (hk : kind < 7) (hz : z < 1000000) : RowOK (kind, lawValue kind z) ∧ ∀ l, lawValue kind z = .byt l → l.length ≤ 130 := by
  unfold lawValue
  by_cases h5 : kind < 5
  · rw [if_pos h5]
    have key : ∀ i : Int, i.natAbs < 2 ^ 200 → RowOK (kind, .int i) ∧ ∀ l, DV.int i = .byt l → l.length ≤ 130 := fun i hi =>
      ⟨⟨hk, by match kind, h5 with | 0, _ | 1, _ | 2, _ | 3, _ | 4, _ => exact trivial, fun j e => by cases e; exact hi⟩, fun l e => by cases e⟩
    split
    · exact key _ (edges_small _)
    · exact key _ (by rw [Int.natAbs_natCast]; exact Nat.lt_of_le_of_lt (Nat.div_le_self _ _) (Nat.lt_trans hz (by decide)))
  · rw [if_neg h5]
    have key : ∀ b : List Nat, b.length ≤ 130 → (∀ x ∈ b, x < 256) → RowOK (kind, .byt b) ∧ ∀ l, DV.byt b = .byt l → l.length ≤ 130 := fun b hb hx =>
      ⟨⟨hk, by match kind, hk, h5 with | 5, _, _ | 6, _, _ => exact ⟨by omega, hx⟩, fun j e => by cases e⟩, fun l e => by cases e; exact hb⟩
    split
    · refine key _ (by simp) fun x hx => ?_
      rcases List.mem_append.mp hx with hx | hx
      · obtain ⟨_, rfl⟩ := List.mem_replicate.mp hx; decide
      · simp at hx; omega
    · refine key _ (by rw [List.length_map, List.length_range]; split <;> omega) fun x hx => ?_
      obtain ⟨j, _, rfl⟩ := List.mem_map.mp hx
      exact Nat.mod_lt _ (by decide)
theorem enc_len {kind : Nat} {d : DV} {o : List Nat} (hf : Fit kind d) (hb : ∀ l, d = .byt l → l.length ≤ 130) (h : enc kind d = some o) : o.length ≤ 140 := by
  unfold enc at h
  split at h
  all_goals first
    | (obtain ⟨n, _, _, rfl⟩ := encN_some h; rw [le_length]; omega)
    | cases h
    | skip
  · obtain ⟨n, _, hn, rfl⟩ := encV_some h
    exact Nat.le_trans (groups_length_le _ 10 (by decide) (by omega)) (by decide)
  · simp
  · exact hf.elim
  · rename_i l
    have h1 : l.length ≤ 1000 := hf.1
    have := groups_length_le l.length 5 (by decide) (by omega)
    have := hb l rfl
    rw [List.length_append]; omega
  · exact Nat.le_trans (hb _ rfl) (by decide)
def octs (q : Nat × DV) : List Nat := (enc q.1 q.2).getD []
def wantOf (rows : List (Nat × DV)) : List Nat := rows.flatMap octs
theorem wantOf_snoc (rows : List (Nat × DV)) (q : Nat × DV) : wantOf (rows ++ [q]) = wantOf rows ++ octs q := by simp [wantOf]
theorem wantOf_lt {rows : List (Nat × DV)} (h : ∀ q ∈ rows, RowOK q) : ∀ x ∈ wantOf rows, x < 256 := by
  intro x hx
  obtain ⟨q, hq, hx⟩ := List.mem_flatMap.mp hx
  unfold octs at hx
  cases e : enc q.1 q.2 with
  | none => rw [e] at hx; cases hx
  | some o => rw [e] at hx; exact (enc_lt (h q hq).fit e).1 x hx
theorem wantOf_at {rows : List (Nat × DV)} {i : Nat} {q : Nat × DV} (h : rows[i]? = some q) : (wantOf rows).drop (wantOf (rows.take i)).length = octs q ++ wantOf (rows.drop (i + 1)) ∧ wantOf (rows.take (i + 1)) = wantOf (rows.take i) ++ octs q := by
  obtain ⟨hi, e⟩ := List.getElem?_eq_some_iff.mp h
  have e1 : rows = rows.take i ++ rows.drop i := (List.take_append_drop i rows).symm
  have e2 : rows.drop i = q :: rows.drop (i + 1) := by rw [List.drop_eq_getElem_cons hi, e]
  constructor
  · conv => lhs; arg 2; rw [e1]
    unfold wantOf
    rw [List.flatMap_append, List.drop_append_of_le_length (Nat.le_refl _), List.drop_length, List.nil_append, e2, List.flatMap_cons]
  · rw [List.take_add_one, h]
    simp [wantOf]
/-- what was read is a value to be written -/
theorem look_fit {kind : Nat} {n : Int} {l : List Nat} {v : DV} {k : Nat} (hk : kind < 7) (h : look kind n l = .ok v k) (hl : ∀ x ∈ l, x < 256) (hz : l.length ≤ 1000) :
    FitW kind v ∧ (∀ i, v = .int i → i.natAbs < 2 ^ 200) ∧ v.isB = decide (kind > 4) ∧ v.isF = (kind == 2) ∧ (∀ b, v = .byt b → ∀ x ∈ b, x < 256) ∧ k ≤ l.length := by
  have hle := (look_tight hk h hl).1
  have numb : ∀ w, w ≤ 8 → lookN l w = .ok v k → ∃ i, v = .int i ∧ i.natAbs < 2 ^ 200 := fun w hw h => by
    obtain ⟨_, m, rfl, h2, _, _⟩ := lookN_tight h hl
    refine ⟨m, rfl, ?_⟩
    rw [Int.natAbs_natCast]
    exact Nat.lt_of_lt_of_le h2 (Nat.le_trans (Nat.pow_le_pow_right (by decide) hw) (by decide))
  match kind, hk with
  | 0, _ => obtain ⟨i, rfl, t⟩ := numb 1 (by decide) h; exact ⟨.inl trivial, (fun j e => by cases e; exact t), rfl, rfl, (fun b e => by cases e), hle⟩
  | 1, _ =>
    obtain ⟨m, e, rfl⟩ := ans_ok h
    have := (number_val e).2
    exact ⟨.inl trivial, (fun j e => by cases e; rw [Int.natAbs_natCast]; exact Nat.lt_trans this (by decide)), rfl, rfl, (fun b e => by cases e), hle⟩
  | 2, _ => obtain ⟨b, rfl, t⟩ := tight2 (p := True) h; exact ⟨.inr ⟨rfl, b, rfl⟩, (fun j e => by cases e), rfl, rfl, (fun b e => by cases e), hle⟩
  | 3, _ => obtain ⟨i, rfl, t⟩ := numb 4 (by decide) h; exact ⟨.inl trivial, (fun j e => by cases e; exact t), rfl, rfl, (fun b e => by cases e), hle⟩
  | 4, _ => obtain ⟨i, rfl, t⟩ := numb 8 (by decide) h; exact ⟨.inl trivial, (fun j e => by cases e; exact t), rfl, rfl, (fun b e => by cases e), hle⟩
  | 5, _ =>
    have h' : lookL l = .ok v k := h
    unfold lookL at h'
    cases e : number 5 4294967296 l with
    | bad => rw [e] at h'; cases h'
    | short => rw [e] at h'; cases h'
    | val m j =>
      rw [e] at h'
      dsimp only at h'
      split at h'
      · cases h'
      · cases h'
        have hx : ∀ x ∈ (l.drop j).take m, x < 256 := fun x hx => hl x (List.mem_of_mem_drop (List.mem_of_mem_take hx))
        exact ⟨.inl ⟨by rw [List.length_take, List.length_drop]; omega, hx⟩, (fun j e => by cases e), rfl, rfl, (fun b e => by cases e; exact hx), hle⟩
  | 6, _ =>
    have h' : lookT n l = .ok v k := h
    unfold lookT at h'
    split at h'
    · cases h'
    · cases h'
      have hx : ∀ x ∈ l.take n.toNat, x < 256 := fun x hx => hl x (List.mem_of_mem_take hx)
      exact ⟨.inl ⟨by rw [List.length_take]; omega, hx⟩, (fun j e => by cases e), rfl, rfl, (fun b e => by cases e; exact hx), hle⟩
theorem asRead_fits {q : Nat × DV} (h : RowOK q) : (asRead q.1 q.2).isB = decide (q.1 > 4) ∧ (asRead q.1 q.2).isF = (q.1 == 2) ∧ ∀ b, asRead q.1 q.2 = .byt b → ∀ x ∈ b, x < 256 := by
  obtain ⟨k, d⟩ := q
  have hk := h.kind
  have hf := h.fit
  clear h
  match k, d, hk, hf with
  | 0, .int i, _, _ => exact ⟨rfl, rfl, fun b e => by cases e⟩
  | 1, .int i, _, _ => exact ⟨rfl, rfl, fun b e => by cases e⟩
  | 2, .int i, _, _ => exact ⟨rfl, rfl, fun b e => by cases e⟩
  | 3, .int i, _, _ => exact ⟨rfl, rfl, fun b e => by cases e⟩
  | 4, .int i, _, _ => exact ⟨rfl, rfl, fun b e => by cases e⟩
  | 5, .byt l, _, hf => exact ⟨rfl, rfl, fun b e => by cases e; exact hf.2⟩
  | 6, .byt l, _, hf => exact ⟨rfl, rfl, fun b e => by cases e; exact hf.2⟩
end Mine

end
section
set_option maxRecDepth 100000
open PySem PySem.W PySem.Calls PyProof.Rows
open Sem (wp)
set_option Elab.async false
set_option linter.unusedVariables false
namespace Mine
/-! ## The law: its names, its body, and what it wants beside -/
def lawBody : List Stmt := match PySem.Challenge.pw_nz0362_01.theDef "law" with
  | some d => d.2.1
  | none => []
def lawScope : Scope := match PySem.Challenge.pw_nz0362_01.theDef "law" with
  | some d => d.2.2
  | none => default
abbrev LX : List Str := ["script", "nums", "a", "sink", "want", "rows", "i", "y", "kind", "value", "octets", "cursor", "code", "given", "start", "again", "at", "short", "n", "size", "told", "whole"]
theorem At.of {α : Type} {xs : List α} {i : Nat} {x : α} (h : xs[i]? = some x) : At xs i x := by
  induction xs generalizing i with
  | nil => simp at h
  | cons y r ih =>
    cases i with
    | zero => simp at h; subst h; exact .head
    | succ i => exact .tail (ih (by simpa using h))
theorem v_script : At LX 0 "script" := .of rfl
theorem v_nums : At LX 1 "nums" := .of rfl
theorem v_a : At LX 2 "a" := .of rfl
theorem v_sink : At LX 3 "sink" := .of rfl
theorem v_want : At LX 4 "want" := .of rfl
theorem v_rows : At LX 5 "rows" := .of rfl
theorem v_i : At LX 6 "i" := .of rfl
theorem v_y : At LX 7 "y" := .of rfl
theorem v_kind : At LX 8 "kind" := .of rfl
theorem v_value : At LX 9 "value" := .of rfl
theorem v_octets : At LX 10 "octets" := .of rfl
theorem v_cursor : At LX 11 "cursor" := .of rfl
theorem v_code : At LX 12 "code" := .of rfl
theorem v_given : At LX 13 "given" := .of rfl
theorem v_start : At LX 14 "start" := .of rfl
theorem v_again : At LX 15 "again" := .of rfl
theorem v_at : At LX 16 "at" := .of rfl
theorem v_short : At LX 17 "short" := .of rfl
theorem v_n : At LX 18 "n" := .of rfl
theorem v_size : At LX 19 "size" := .of rfl
theorem v_told : At LX 20 "told" := .of rfl
theorem v_whole : At LX 21 "whole" := .of rfl

/-- the rows of the law -/
inductive RowsAre (led : List (Addr × Obj)) : List Value → List (Nat × DV) → Prop
  | nil : RowsAre led [] []
  | snoc {vs rows t u v q} : RowsAre led vs rows → (t, tupO [u, v]) ∈ led → IsI (q.1 : Nat) u → q.2.Is v → RowsAre led (vs ++ [.ref t]) (rows ++ [q])
theorem RowsAre.length {led vs rows} (h : RowsAre led vs rows) : vs.length = rows.length := by
  induction h with
  | nil => rfl
  | snoc _ _ _ _ ih => simp [ih]
theorem RowsAre.map {led led' vs rows} (h : RowsAre led vs rows) (k : ∀ p ∈ led, p.2.cls = .type "tuple" → p ∈ led') : RowsAre led' vs rows := by
  induction h with
  | nil => exact .nil
  | snoc _ m hu hv ih => exact .snoc ih (k _ m rfl) hu hv
theorem RowsAre.get {led vs rows} (h : RowsAre led vs rows) {i : Nat} {x : Value} (e : vs[i]? = some x) : ∃ t u v q, x = .ref t ∧ (t, tupO [u, v]) ∈ led ∧ rows[i]? = some q ∧ IsI (q.1 : Nat) u ∧ q.2.Is v := by
  induction h with
  | nil => simp at e
  | @snoc vs rows t u v q h' m hu hv ih =>
    have hl := h'.length
    rcases Nat.lt_trichotomy i vs.length with z | z | z
    · rw [List.getElem?_append_left z] at e
      obtain ⟨t', u', v', q', h1, h2, h3, h4⟩ := ih e
      exact ⟨t', u', v', q', h1, h2, by rw [List.getElem?_append_left (by omega)]; exact h3, h4⟩
    · subst z
      rw [List.getElem?_append_right (Nat.le_refl _)] at e
      simp at e
      exact ⟨t, u, v, q, e.symm, m, by rw [hl, List.getElem?_append_right (Nat.le_refl _)]; simp, hu, hv⟩
    · rw [List.getElem?_eq_none (by simp; omega)] at e; cases e

/-- no iterator -/
def NotIt (o : Obj) : Prop := o.cls ≠ .type "range_iterator" ∧ o.cls ≠ .type "list_iterator"
theorem Snk.map {led led' : List (Addr × Obj)} {c dc b : Addr} {l : List Nat} (C : Snk led c dc b l) (k : ∀ p ∈ led, NotIt p.2 → p ∈ led') : Snk led' c dc b l :=
  ⟨k _ C.inst ⟨by show (Value.ref 317 : Value) ≠ _; decide, by show (Value.ref 317 : Value) ≠ _; decide⟩, let ⟨es, n, m, r⟩ := C.dct; ⟨es, n, k _ m ⟨by show (Value.type "dict" : Value) ≠ _; decide, by show (Value.type "dict" : Value) ≠ _; decide⟩, r⟩, k _ C.oct ⟨by show (Value.type "bytearray" : Value) ≠ _; decide, by show (Value.type "bytearray" : Value) ≠ _; decide⟩⟩
theorem Cur.map {led led' : List (Addr × Obj)} {c dc : Addr} {dv : Value} {l : List Nat} {p : Nat} (C : Cur led c dc dv l p) (k : ∀ p ∈ led, NotIt p.2 → p ∈ led') : Cur led' c dc dv l p :=
  ⟨k _ C.inst ⟨by show (Value.ref 240 : Value) ≠ _; decide, by show (Value.ref 240 : Value) ≠ _; decide⟩, let ⟨es, n, t, m, r⟩ := C.dct; ⟨es, n, t, k _ m ⟨by show (Value.type "dict" : Value) ≠ _; decide, by show (Value.type "dict" : Value) ≠ _; decide⟩, r⟩,
    C.oct.imp id fun ⟨x, e, m⟩ => ⟨x, e, k _ m ⟨by show (Value.type "bytearray" : Value) ≠ _; decide, by show (Value.type "bytearray" : Value) ≠ _; decide⟩⟩⟩
theorem notIt_list {vs n} : NotIt (lstO vs n) := ⟨by show (Value.type "list" : Value) ≠ _; decide, by show (Value.type "list" : Value) ≠ _; decide⟩
theorem notIt_tup {o : Obj} (h : o.cls = .type "tuple") : NotIt o := ⟨by rw [h]; decide, by rw [h]; decide⟩
theorem notIt_ba {b} : NotIt (baO b) := ⟨by show (Value.type "bytearray" : Value) ≠ _; decide, by show (Value.type "bytearray" : Value) ≠ _; decide⟩

section
variable {W : Wd} {A : Around} {E : Value → Shared → Prop} {a : Act} {xs : List Str} {ρ ρ' : List (Option Value)} {led led' : List (Addr × Obj)} {h : Heap} {G : Array GenState} {D : Drawn} {tk : Nat} {O : OsState} {env : Env}
/-- the ledger without a loop's iterator -/
theorem St.sans {I : Addr} {oI : Obj} (S : St W a xs ρ led h) (mI : (I, oI) ∈ led) (cI : oI.cls = .type "range_iterator" ∨ oI.cls = .type "list_iterator") : ∃ L : List (Addr × Obj), (∀ p ∈ L, p.1 ≠ I ∧ p ∈ led) ∧ ∀ p ∈ led, NotIt p.2 → p ∈ L :=
  ⟨led.filter fun p => p.1 != I, fun p hp => ⟨by simpa using (List.mem_filter.mp hp).2, (List.mem_filter.mp hp).1⟩, fun p hp hn => List.mem_filter.mpr ⟨hp, by
    have : p.1 ≠ I := S.ne (o := p.2) hp mI (ne_of_cls fun e => by rcases cI with c | c; exact hn.1 (e.trans c); exact hn.2 (e.trans c))
    simpa using this⟩⟩

theorem EvB.val {e : Expr} {b : Bool} (h1 : Ev W A env a xs ρ led e (· = .bool b)) (he : ∀ w, isTrue e env w = (do let v ← w; standAt e.pos; holding [v] (truthy v)) := by intro _; rfl) : EvB W A env a xs ρ led e b :=
  ⟨fun S q => TestP (h1.go S fun v h tk hv S => by subst hv; exact truthyB (q _ _ S)) he⟩
theorem Ev.ltV {l r pos i j} (hl : Ev W A env a xs ρ led l (IsI i)) (hr : Ev W A env a xs ρ led r (IsI j)) : Ev W A env a xs ρ led (.Compare l [.Lt] [r] pos) (· = .bool (decide (i < j))) :=
  cmpVal hl hr (fun _ _ _ _ _ ⟨_, hu⟩ ⟨_, hv⟩ q => by subst hu; subst hv; exact P.lt_int (q _)) (bim rfl r)
/-- a made pair against a pair of the ledger -/
theorem EvB.neTup {l : Expr} {es : List Expr} {k : Nat} {pos tp : Pos} {y : Addr} {u v : Value} {c d : DV} (hA : A.units < cLine) (hl : Ev W A env a xs ρ led l (· = .ref y)) (m : (y, tupO [u, v]) ∈ led) (h1 : c.Is u) (h3 : d.Is v)
    (hr : EvL W A env a xs ρ led es (fun vs => ∃ v u, vs = [v, u] ∧ c.Is v ∧ d.Is u)) (hc : ∀ l, c = .byt l → ∀ x ∈ l, x < 256) (hd : ∀ l, d = .byt l → ∀ x ∈ l, x < 256) : EvB W A env a xs ρ led (.Compare l [.NotEq] [.Tuple es k tp] pos) false :=
  ⟨fun S q => TestCompareP (hl.go S fun v1 h tk hv S => TupleP (hr.go S fun vs h tk hvs S => newTupleP S (two_le hvs) fun z h tk S ne => by
    obtain ⟨v', u', rfl, h2, h4⟩ := hvs
    subst hv
    exact up (ne_pair S hA (.tail _ m) (.head _) h1 h2 h3 h4 hc hd (truthyB (q _ _ (S.onLed fun p hp => .tail _ hp)))))) (bim rfl _)⟩
end
end Mine

end
section
set_option maxRecDepth 100000
open PySem PySem.W PySem.Calls PyProof.Rows
open Sem (wp)
set_option Elab.async false
set_option linter.unusedVariables false
namespace Mine
def SnkC (o : Obj) : Prop := o.cls = .ref 317 ∨ o.cls = .type "dict" ∨ o.cls = .type "bytearray"
theorem Snk.mapC {led led' : List (Addr × Obj)} {c dc b : Addr} {l : List Nat} (C : Snk led c dc b l) (k : ∀ p ∈ led, SnkC p.2 → p ∈ led') : Snk led' c dc b l :=
  ⟨k _ C.inst (.inl rfl), let ⟨es, n, m, r⟩ := C.dct; ⟨es, n, k _ m (.inr (.inl rfl)), r⟩, k _ C.oct (.inr (.inr rfl))⟩
structure W1 (led : List (Addr × Obj)) (nl s ds b r : Addr) (ns : List Int) (rows : List (Nat × DV)) (nvs rvs : List Value) (m1 m2 : Nat) : Prop where
  nums : (nl, lstO nvs m1) ∈ led
  its : IntsAre nvs ns
  ok : NumsOK ns
  snk : Snk led s ds b (wantOf rows)
  lst : (r, lstO rvs m2) ∈ led
  rws : RowsAre led rvs rows
  rok : ∀ q ∈ rows, RowOK q
  nlr : nl ≠ r
  ren : ∀ q ∈ rows, (enc q.1 q.2).isSome = true
theorem W1.map {led led' : List (Addr × Obj)} {nl s ds b r : Addr} {ns : List Int} {rows : List (Nat × DV)} {nvs rvs : List Value} {m1 m2 : Nat} (C : W1 led nl s ds b r ns rows nvs rvs m1 m2) (k : ∀ p ∈ led, NotIt p.2 → p ∈ led') : W1 led' nl s ds b r ns rows nvs rvs m1 m2 :=
  ⟨k _ C.nums notIt_list, C.its, C.ok, C.snk.map k, k _ C.lst notIt_list, C.rws.map fun p hp hc => k p hp (notIt_tup hc), C.rok, C.nlr, C.ren⟩

section
variable {W : Wd} {A : Around} {E : Value → Shared → Prop} {a : Act} {xs : List Str} {ρ ρ' : List (Option Value)} {led led' : List (Addr × Obj)} {h : Heap} {G : Array GenState} {D : Drawn} {tk : Nat} {O : OsState} {env : Env}
theorem optPlain {oo : Option (List Nat)} {v : Value} (h : OptB oo v) : plainIs v .none = true ∧ (v == .none) = oo.isNone := by
  cases oo with
  | none => cases h; exact ⟨rfl, rfl⟩
  | some l => obtain ⟨t, rfl⟩ := h; exact ⟨rfl, rfl⟩
theorem EvB.optNone {l pos} {oo : Option (List Nat)} {v : Value} {k : Nat} {np : Pos} (hl : Ev W A env a xs ρ led l (· = v)) (ho : OptB oo v) : EvB W A env a xs ρ led (.Compare l [.Is] [.Constant .none k np] pos) oo.isNone :=
  (EvB.isNone hl (optPlain ho).1).cast (optPlain ho).2
theorem EvB.optSome {l pos} {oo : Option (List Nat)} {v : Value} {k : Nat} {np : Pos} (hl : Ev W A env a xs ρ led l (· = v)) (ho : OptB oo v) : EvB W A env a xs ρ led (.Compare l [.IsNot] [.Constant .none k np] pos) oo.isSome :=
  (EvB.isNotNone hl (optPlain ho).1).cast (by rw [(optPlain ho).2]; cases oo <;> rfl)
theorem Ev.optSome {l pos} {oo : Option (List Nat)} {v : Value} {k : Nat} {np : Pos} (hl : Ev W A env a xs ρ led l (· = v)) (ho : OptB oo v) : Ev W A env a xs ρ led (.Compare l [.IsNot] [.Constant .none k np] pos) (· = .bool oo.isSome) :=
  (Ev.isNotNone hl (optPlain ho).1).mono fun u e => by rw [e, (optPlain ho).2]; cases oo <;> rfl
/-- <list>.append((.., ..)) -/
theorem AppendT {o : Expr} {es : List Expr} {kk : Nat} {ap pos sp tp : Pos} {x : Addr} {vs : List Value} {n : Nat} {P : List Value → Prop} {Q : Flow → Shared → Prop} (S : St W a xs ρ led h) (ho : Ev W A env a xs ρ led o (· = .ref x)) (m : (x, lstO vs n) ∈ led) (hes : EvL W A env a xs ρ led es P) (hP : ∀ us, P us → us.length ≤ 1000) (hz : vs.length < 1000000)
    (q : ∀ us y h' tk', P us → St W a xs ρ (updL x (lstO (vs ++ [.ref y]) (n + 1)) ((y, tupO us) :: led)) h' → (∀ p ∈ led, p.1 ≠ y) → Q .next ⟨h', G, D, tk', O⟩) (pl : Sem Bool)
    (hev : eval (.Call (.Attribute o "append" ap) [.Tuple es kk tp] [] pos) env = (do
      let ov ← eval o env
      standAt ap.atName
      let (f, first) ← holding [ov] (getMethod ov "append" pl)
      callWith pos f first (backTo pos (starEach [.Tuple es kk tp] env)) (backToKw pos (keywordEach [] env))) := by rfl)
    (hi : interactive env = false := by rfl) (hs : swapsWith (.Call (.Attribute o "append" ap) [.Tuple es kk tp] [] pos) none sp.line env = pure false := by rfl) (hp : starEach [.Tuple es kk tp] env = [(false, eval (.Tuple es kk tp) env)] := by rfl) :
    wpP W.M A (exec (.Expr (.Call (.Attribute o "append" ap) [.Tuple es kk tp] [] pos) sp) env) Q E ⟨h, G, D, tk, O⟩ := by
  refine ExprP (MethodP S ho (fun S q => method_lst S m q) rfl (fun h tk S => ?_) pl hev (by rw [hp]; rfl)) hi hs
  refine spliced_consP (TupleP (hes.go S fun us h tk pu S => newTupleP S (hP us pu) fun y h tk S ne => spliced_nilP ⟨S.X, ?_⟩)) hp
  refine up (append_at (S.get (.tail _ m)) (fun h' hs e => q us y h' _ pu (S.change (.tail _ m) (fun b x n e => hs.extBut b x n e) ?_) ne) (by rw [List.size_toArray, sizeLine_eq]; omega))
  rw [e]; simp
end

/-- the law's environment -/
abbrev envLaw (L fa : Addr) (cd : Value) : Env := envOf (Str.ofString "law") lawScope L fa cd
section
variable {w : World} {A : Around} {E : Value → Shared → Prop} {Q : Flow → Shared → Prop} {a : Act} {h : Heap} {G : Array GenState} {D : Drawn} {tk : Nat} {O : OsState} {fa : Addr} {cd : Value}

theorem nlaw : EnvOK (envLaw a.L fa cd) a LX := EnvOK.mk' (by kernel_rfl) (by kernel_rfl)

/-- the draws -/
theorem law_nums {l : Addr} {vs : List Value} {ns : List Int} {t0 : List (Option Value)} (S : St (W0 w) a LX (some (.ref l) :: List.replicate 21 none) [] h) (hA : AOK A a 40) (hL : ∀ h' : Heap, (∀ b o, a.g.get? b = some o → h'.get? b = some o) → h'.IsList l vs.toArray) (hi : IntsAre vs ns) (hlen : ns.length ≤ 63)
    (k : ∀ nl nvs ns m1 h tk, NumsOK ns → IntsAre nvs ns → St (W0 w) a LX (some (.ref l) :: some (.ref nl) :: List.replicate 20 none) [(nl, lstO nvs m1)] h → wpP (W0 w).M A (execs (lawBody.drop 2) (envLaw a.L fa cd)) Q E ⟨h, G, D, tk, O⟩) :
    wpP (W0 w).M A (execs lawBody (envLaw a.L fa cd)) Q E ⟨h, G, D, tk, O⟩ := by
  have N := nlaw (a := a) (fa := fa) (cd := cd)
  have hLh : h.IsList l vs.toArray := by obtain ⟨_, F, _⟩ := S.vars; exact hL h F.keep
  show wpP _ _ (execs (_ :: _) _) _ _ _
  refine execs_consP (SetCompInts (ns := cut none (some 14) ns) (f := fun j => j.fmod 999983) N S v_nums (fun kk => sliceHit hA.hd (.locS S N v_script rfl) hLh hi (by omega) rfl ⟨_, rfl, .int⟩ kk (by intro _ _; rfl)) (Nat.le_trans (cut_length _ _ _) (by omega)) rfl (by kernel_rfl) (by kernel_rfl) (by kernel_rfl) (by kernel_rfl)
    (fun C j t h₃ m₃ G D O hns hm hj hled => .mod (.isI (.loc (by kernel_rfl) (by kernel_rfl) hns hm) rfl) .int (by decide)) fun nl nvs m1 h tk S hnv => ?_)
  have hcut : cut none (some 14) ns = ns.take 14 := by
    by_cases h14 : 14 ≤ ns.length
    · exact cut_upto ns 14 h14
    · simp only [cut, Option.elim]
      have : clipAt ns.length 14 = ns.length := by
        have e := clipAt_nat ns.length 14
        have e2 : clipAt ns.length 14 = min 14 ns.length := e
        rw [e2]; omega
      rw [this, List.drop_zero, Nat.sub_zero, List.take_length, List.take_of_length_le (by omega)]
  rw [hcut] at hnv
  have hl := hnv.length
  refine execs_join (I := fun s => ∃ nl nvs ns m1 h tk, s = ⟨h, G, D, tk, O⟩ ∧ NumsOK ns ∧ IntsAre nvs ns ∧ St (W0 w) a LX (some (.ref l) :: some (.ref nl) :: List.replicate 20 none) [(nl, lstO nvs m1)] h) (IfE S (.eq (.lenL N g_len (.loc N v_nums rfl) (.head _) (by rw [hl, List.length_map, List.length_take]; omega)) .int) (fun hb h tk S => ?_) (fun hb h tk S => ?_)) ?_
  · refine execs_consP (AssignNameP (ListP ((EvIs.cons .int EvIs.nil).go S fun us h tk hu S => newListP S (by rw [hu.length]; show 1 ≤ 1000; decide) fun y h tk S ne => storeL S v_nums N.loc N.kind N.names fun h tk S => ?_)))
    exact execs_nilP ⟨rfl, y, us, [5], 0, h, tk, rfl, nums_five, hu, S.onLed fun p hp => by
      rcases List.mem_cons.mp hp with rfl | hp
      · exact .head _
      · cases hp⟩
  · refine execs_nilP ⟨rfl, nl, nvs, _, m1, h, tk, rfl, nums_ok fun e => ?_, hnv, S⟩
    rw [hl, e] at hb
    simp at hb
  · rintro _ ⟨nl, nvs, ns, m1, h, tk, rfl, hok, hnv, S⟩
    exact k nl nvs ns m1 h tk hok hnv S
end
end Mine

end
section
set_option maxRecDepth 100000
open PySem PySem.W PySem.Calls PyProof.Rows
open Sem (wp)
set_option Elab.async false
set_option linter.unusedVariables false
namespace Mine
section
variable {w : World} {A : Around} {E : Value → Shared → Prop} {Q : Flow → Shared → Prop} {a : Act} {h : Heap} {G : Array GenState} {D : Drawn} {tk : Nat} {O : OsState} {fa : Addr} {cd : Value}

/-- the names of the law, behind the first loop -/
abbrev LR1 (l nl : Addr) (av : Value) (s : Addr) (wv : Value) (r : Addr) (x6 x7 x8 x9 x10 : Option Value) : List (Option Value) :=
  [some (.ref l), some (.ref nl), some av, some (.ref s), some wv, some (.ref r), x6, x7, x8, x9, x10, none, none, none, none, none, none, none, none, none, none, none]

/-- one turn of the first loop -/
theorem turn1 {l nl s ds b r : Addr} {an i : Nat} {ta tw ti : Tok} {ns : List Int} {rows : List (Nat × DV)} {nvs rvs : List Value} {m1 m2 : Nat} {x7 x8 x9 x10 : Option Value} {led : List (Addr × Obj)} {body : List Stmt} {I : Addr} {oI : Obj}
    (hb : ∃ t it pos rest, lawBody.drop 6 = Stmt.For t it body [] pos :: rest)
    (S : St (W0 w) a LX (LR1 l nl (.int an ta) s (.bytes (ba (wantOf rows)) tw) r (some (.int (i : Nat) ti)) x7 x8 x9 x10) led h) (hA : AOK A a 40) (hi : i < 6)
    (C : W1 led nl s ds b r ns rows nvs rvs m1 m2) (mI : (I, oI) ∈ led) (cI : oI.cls = .type "range_iterator") (hlen : rows.length ≤ i) (hwl : (wantOf rows).length ≤ 140 * i)
    (k : ∀ led' h' tk' rows' rvs' m2' tw' x7 x8 x9 x10, St (W0 w) a LX (LR1 l nl (.int an ta) s (.bytes (ba (wantOf rows')) tw') r (some (.int (i : Nat) ti)) x7 x8 x9 x10) led' h' → W1 led' nl s ds b r ns rows' nvs rvs' m1 m2' → rows'.length ≤ i + 1 → (wantOf rows').length ≤ 140 * (i + 1) → (∀ o, (I, o) ∈ led → (I, o) ∈ led') → Q .next ⟨h', G, D, tk', O⟩) :
    wpP (W0 w).M A (execs body (envLaw a.L fa cd)) Q E ⟨h, G, D, tk, O⟩ := by
  obtain ⟨_, _, _, _, hb⟩ := hb
  cases hb
  have N := nlaw (a := a) (fa := fa) (cd := cd)
  obtain ⟨yn, hy, hyn⟩ := draw_nat C.ok (1 + i) (by omega)
  have hl1 := C.its.length
  -- y
  refine execs_consP (AssignNameP (CallE N S g__law_draw rfl (.two (.loc N v_nums rfl) (.castI (j := ((1 + i : Nat) : Int)) (.add .int (.locI N v_i rfl)) (by omega))) fun vs h tk hv S => ?_))
  obtain ⟨_, _, rfl, rfl, t1, rfl⟩ := hv
  refine callP (c_draw S hA.le C.nums C.its C.ok.ne (by have := C.ok.len; omega) fun t h tk S => ?_)
  rw [hy]
  refine storeL S v_y N.loc N.kind N.names fun h tk S => ?_
  -- kind
  refine execs_consP (SetE N S (.modN (j := 7) (.locI N v_y rfl) .int (by decide)) v_kind fun v h tk ⟨t2, hv⟩ S => ?_)
  subst hv
  have hk : yn % 7 < 7 := Nat.mod_lt _ (by decide)
  have hz : yn / 7 < 1000000 := by omega
  obtain ⟨hrow, hbyt⟩ := lawValue_ok hk hz
  generalize hkk : yn % 7 = kind at hk hrow hbyt S
  -- value
  refine execs_consP (AssignNameP (CallE N S g__law_value rfl (.two (.loc N v_kind rfl) (.divN (j := 7) (.locI N v_y rfl) .int (by decide) (by decide))) fun vs h tk hv S => ?_))
  obtain ⟨_, _, rfl, rfl, t3, rfl⟩ := hv
  refine callP (c_lvalue S hA.le hk hz fun uv0 h tk hd S => ?_)
  generalize lawValue kind (yn / 7) = d at hd hrow hbyt
  refine storeL S v_value N.loc N.kind N.names fun h tk S => ?_
  -- octets
  refine execs_consP (AssignNameP (CallE N S g__law_octets rfl (.two (.loc N v_kind rfl) (.loc N v_value rfl)) fun vs h tk hv S => ?_))
  obtain ⟨_, uv, rfl, rfl, rfl⟩ := hv
  refine callP (c_loctets S hA.le hk hrow.fit hd hrow.small fun ov h tk ho S => ?_)
  refine storeL S v_octets N.loc N.kind N.names fun h tk S => ?_
  have hOl : ∀ o, enc kind d = some o → o.length ≤ 140 := fun o e => enc_len hrow.fit hbyt e
  have hOx : ∀ o, enc kind d = some o → ∀ x ∈ o, x < 256 := fun o e => (enc_lt hrow.fit e).1
  -- counted
  refine execs_join (I := fun s' => ∃ h tk, s' = ⟨h, G, D, tk, O⟩ ∧ St (W0 w) a LX (LR1 l nl (.int an ta) s (.bytes (ba (wantOf rows)) tw) r (some (.int (i : Nat) ti)) (some (.int (yn : Nat) t)) (some (.int (kind : Nat) t2)) (some uv) (some ov)) led h) (IfE S (.eq (.locI N v_kind rfl) .int) (fun hb h tk S => ?_) (fun hb h tk S => execs_nilP ⟨rfl, h, tk, rfl, S⟩)) ?_
  · have e1 : kind = 1 := by simp at hb; omega
    subst e1
    obtain ⟨iv, rfl⟩ := fit_int (kind := 1) (by decide) hrow.fit
    refine execs_consP (IfE S (.cast (c := false) (.ne (i := (((encV iv).elim 0 List.length : Nat) : Int)) (j := (((encV iv).elim 0 List.length : Nat) : Int)) (.call N g__law_counted rfl (.one (.loc N v_value rfl)) fun S p q => ?_)
      (.ifexp (.optNone (.loc N v_octets rfl) ho) (fun hc => .castI .int ?_) (fun hc => ?_))) (bne_self_eq_false _)) (fun hb => by cases hb) (fun _ h tk S => execs_nilP (execs_nilP ⟨rfl, h, tk, rfl, S⟩)))
    · obtain ⟨_, rfl, rfl⟩ := p
      obtain ⟨t4, rfl⟩ := hd
      exact callP (c_counted S hA.le (hrow.small _ rfl) fun t h tk S => q _ h tk ⟨t, rfl⟩ S)
    · have e : encV iv = none := by simpa [enc] using hc
      rw [e]; rfl
    · obtain ⟨o, e⟩ : ∃ o, encV iv = some o := by
        cases e : encV iv with
        | none => rw [show enc 1 (.int iv) = encV iv from rfl, e] at hc; cases hc
        | some o => exact ⟨o, rfl⟩
      have ho' : IsB o ov := by rw [show enc 1 (.int iv) = encV iv from rfl, e] at ho; exact ho
      rw [e]
      have := hOl o e
      exact .lenOct N g_len ((Ev.loc N v_octets rfl).mono fun u e => e ▸ ho'.oct) (by omega)
  rintro _ ⟨h, tk, rfl, S⟩
  -- written
  refine execs_join (I := fun s' => ∃ led' h tk, s' = ⟨h, G, D, tk, O⟩ ∧ St (W0 w) a LX (LR1 l nl (.int an ta) s (.bytes (ba (wantOf rows)) tw) r (some (.int (i : Nat) ti)) (some (.int (yn : Nat) t)) (some (.int (kind : Nat) t2)) (some uv) (some ov)) led' h ∧ Snk led' s ds b (wantOf rows ++ octs (kind, d)) ∧ ∀ p ∈ led, p.1 ≠ b → p ∈ led') (IfP (TestCompareP (CallE N S g__law_write rfl (.three (.loc N v_sink rfl) (.loc N v_kind rfl) (.loc N v_value rfl)) fun vs h tk hv S => ?_))) ?_
  · obtain ⟨_, _, _, rfl, rfl, rfl, rfl⟩ := hv
    refine callP (c_lwrite S hA.le C.snk (by omega) hk (.inl hrow.fit) hd hrow.small (fun o e led' h tk S C' kp => ?_) (fun e h tk S => ?_))
    · refine (Ev.optSome (Ev.loc N v_octets rfl) ho).go S fun u h tk hu S => ?_
      subst hu
      rw [e]
      refine up (ne_bool ?_)
      refine truthyB ?_
      refine execs_nilP ⟨rfl, led', h, tk, rfl, S, ?_, kp⟩
      have : octs (kind, d) = o := by unfold octs; rw [e]; rfl
      rw [this]; exact C'
    · refine (Ev.optSome (Ev.loc N v_octets rfl) ho).go S fun u h tk hu S => ?_
      subst hu
      rw [e]
      refine up (ne_bool ?_)
      refine truthyB ?_
      refine execs_nilP ⟨rfl, led, h, tk, rfl, S, ?_, fun p hp _ => hp⟩
      have : octs (kind, d) = [] := by unfold octs; rw [e]; rfl
      rw [this, List.append_nil]; exact C.snk
  rintro _ ⟨led', h, tk, rfl, S', C', kp⟩
  have hbt := C.snk.oct
  have keepNB : ∀ p ∈ led, p.2.cls ≠ .type "bytearray" → p ∈ led' := fun p hp hc => kp p hp (S.ne (o := p.2) hp hbt (ne_of_cls hc))
  have keepI : ∀ o, (I, o) ∈ led → (I, o) ∈ led' := fun o m => keepNB _ m (by
    have e1 := S.get m
    rw [S.get mI] at e1; cases e1
    rw [cI]; decide)
  have nums' := keepNB _ C.nums (show (Value.type "list" : Value) ≠ _ by decide)
  have lst' := keepNB _ C.lst (show (Value.type "list" : Value) ≠ _ by decide)
  have rws' := C.rws.map fun p hp hc => keepNB p hp (by rw [hc]; decide)
  -- kept
  refine execs_join (I := fun s' => ∃ led2 h tk rows' rvs' m2' tw', s' = ⟨h, G, D, tk, O⟩ ∧ St (W0 w) a LX (LR1 l nl (.int an ta) s (.bytes (ba (wantOf rows')) tw') r (some (.int (i : Nat) ti)) (some (.int (yn : Nat) t)) (some (.int (kind : Nat) t2)) (some uv) (some ov)) led2 h ∧ W1 led2 nl s ds b r ns rows' nvs rvs' m1 m2' ∧ rows'.length ≤ i + 1 ∧ (wantOf rows').length ≤ 140 * (i + 1) ∧ ∀ o, (I, o) ∈ led' → (I, o) ∈ led2) (IfE S' (.optSome (.loc N v_octets rfl) ho) (fun hb h tk S => ?_) (fun hb h tk S => ?_)) ?_
  · obtain ⟨o, e⟩ := Option.isSome_iff_exists.mp hb
    have hO : octs (kind, d) = o := by unfold octs; rw [e]; rfl
    have ho' : IsB o ov := by rw [e] at ho; exact ho
    have hol := hOl o e
    refine execs_consP (SetE N S (.addB (i := wantOf rows) (j := o) ((Ev.loc N v_want rfl).mono fun u e => ⟨tw, e⟩) ((Ev.loc N v_octets rfl).mono fun u e => e ▸ ho') (by omega)) v_want fun wv h tk ⟨tw2, hw⟩ S => ?_)
    subst hw
    have hrl := rws'.length
    refine execs_consP (AppendT S (.loc N v_rows rfl) lst' (.two (.locI N v_kind rfl) (.loc N v_value rfl)) (fun _ => two_le) (by omega) (fun us y h tk hu S2 ne => ?_) _)
    obtain ⟨u, v, rfl, hu, rfl⟩ := hu
    have hsnoc := wantOf_snoc rows (kind, d)
    rw [hO] at hsnoc C'
    rw [← hsnoc] at S2 C'
    have neq : ∀ p ∈ led', p.2.cls ≠ .type "list" → p.1 ≠ r := fun p hp hc => S.ne (o := p.2) hp lst' (ne_of_cls hc)
    refine execs_nilP ⟨rfl, _, h, tk, rows ++ [(kind, d)], _, _, tw2, rfl, S2, ⟨updL_ne (.tail _ nums') C.nlr, C.its, C.ok, C'.mapC fun p hp hc => updL_ne (.tail _ hp) (neq p hp ?_), updL_self (.tail _ lst'), .snoc (rws'.map fun p hp hc => updL_ne (.tail _ hp) (neq p hp (by rw [hc]; decide))) (updL_ne (.head _) (ne _ lst').symm) hu hd, fun q hq => ?_, C.nlr, fun q hq => ?_⟩, by simp; omega, by rw [hsnoc, List.length_append]; omega, fun o m => updL_ne (.tail _ m) ?_⟩
    · rcases hc with c | c | c <;> rw [c] <;> decide
    · rcases List.mem_append.mp hq with hq | hq
      · exact C.rok q hq
      · simp at hq; subst hq; exact hrow
    · rcases List.mem_append.mp hq with hq | hq
      · exact C.ren q hq
      · simp at hq; subst hq; rw [e]; rfl
    · have e1 := S.get m
      rw [S.get (keepI _ mI)] at e1; cases e1
      exact neq _ m (by rw [cI]; decide)
  · have e : enc kind d = none := by simpa using hb
    have hO : octs (kind, d) = [] := by unfold octs; rw [e]; rfl
    rw [hO, List.append_nil] at C'
    exact execs_nilP ⟨rfl, led', h, tk, rows, rvs, m2, tw, rfl, S, ⟨nums', C.its, C.ok, C', lst', rws', C.rok, C.nlr, C.ren⟩, by omega, by omega, fun o m => m⟩
  rintro _ ⟨led2, h, tk, rows', rvs', m2', tw', rfl, S, C2, hl2, hw2, kI⟩
  have hwx := wantOf_lt C2.rok
  obtain ⟨es, nn, md, g1, g2⟩ := C2.snk.dct
  refine execs_consP (IfE S (.cast (c := false) (.neB (i := wantOf rows') (j := wantOf rows') (.meth (.loc N v_sink rfl) C2.snk.inst md me_Sink_done (g2.none (by decide)) .nil (fun S p q => ?_) _) ((Ev.loc N v_want rfl).mono fun u e => ⟨tw', e⟩) hwx hwx) (bne_self_eq_false _)) (fun hb => by cases hb) (fun _ h tk S => execs_nilP (execs_nilP ?_)))
  · subst p
    exact m_sdone S hA.le C2.snk (by omega) fun t h tk S => q _ h tk ⟨t, rfl⟩ S
  · exact k led2 h tk rows' rvs' m2' tw' _ _ _ _ S C2 hl2 hw2 fun o m => kI o (keepI o m)
end
end Mine

end
section
set_option maxRecDepth 100000
open PySem PySem.W PySem.Calls PyProof.Rows
open Sem (wp)
set_option Elab.async false
set_option linter.unusedVariables false
namespace Mine
section
variable {W : Wd} {A : Around} {a : Act} {xs : List Str} {ρ : List (Option Value)} {led : List (Addr × Obj)} {env : Env}
theorem Ev.bytes0 {k : Nat} {pos : Pos} : Ev W A env a xs ρ led (.Constant (.bytes []) k pos) (IsB []) := ⟨fun S q => constBytes fun t tk' => q _ _ _ ⟨t, rfl⟩ S⟩
end
section
variable {w : World} {A : Around} {E : Value → Shared → Prop} {Q : Flow → Shared → Prop} {a : Act} {h : Heap} {G : Array GenState} {D : Drawn} {tk : Nat} {O : OsState} {fa : Addr} {cd : Value}

theorem law_writes {l nl : Addr} {ns : List Int} {nvs : List Value} {m1 : Nat} (S : St (W0 w) a LX (some (.ref l) :: some (.ref nl) :: List.replicate 20 none) [(nl, lstO nvs m1)] h) (hA : AOK A a 40) (hok : NumsOK ns) (hi : IntsAre nvs ns)
    (k : ∀ (an : Nat) ta s ds b r rows rvs m2 tw x6 x7 x8 x9 x10 led h tk, an < 1000700 → W1 led nl s ds b r ns rows nvs rvs m1 m2 → rows.length ≤ 6 → (wantOf rows).length ≤ 840 → St (W0 w) a LX (LR1 l nl (.int an ta) s (.bytes (ba (wantOf rows)) tw) r x6 x7 x8 x9 x10) led h →
      wpP (W0 w).M A (execs (lawBody.drop 7) (envLaw a.L fa cd)) Q E ⟨h, G, D, tk, O⟩) :
    wpP (W0 w).M A (execs (lawBody.drop 2) (envLaw a.L fa cd)) Q E ⟨h, G, D, tk, O⟩ := by
  have N := nlaw (a := a) (fa := fa) (cd := cd)
  show wpP _ _ (execs (_ :: _) _) _ _ _
  obtain ⟨an, hy, hyn⟩ := draw_nat hok 0 (by omega)
  refine execs_consP (AssignNameP (CallE N S g__law_draw rfl (.two (.loc N v_nums rfl) .int) fun vs h tk hv S => ?_))
  obtain ⟨_, _, rfl, rfl, t1, rfl⟩ := hv
  refine callP (c_draw (i := 0) S hA.le (.head _) hi hok.ne (by have := hok.len; omega) fun t h tk S => ?_)
  rw [hy]
  refine storeL S v_a N.loc N.kind N.names fun h tk S => ?_
  refine execs_consP (AssignNameP (CallE N S g_Sink (by kernel_rfl) .nil fun vs h tk hv S => ?_))
  subst hv
  refine newSnk S hA.le fun s ds b led' h tk S C kp => ?_
  have mn := kp _ (.head _)
  refine storeL S v_sink N.loc N.kind N.names fun h tk S => ?_
  refine execs_consP (SetE N S .bytes0 v_want fun v h tk ⟨tw, hv⟩ S => ?_)
  subst hv
  refine execs_consP (AssignNameP (ListP (EvL.nil.go S fun us h tk hu S => ?_)))
  subst hu
  refine newListP S (by decide) fun r h tk S ne => storeL S v_rows N.loc N.kind N.names fun h tk S => ?_
  have C0 : W1 ((r, lstO []) :: led') nl s ds b r ns [] nvs [] m1 0 := ⟨.tail _ mn.1, hi, hok, C.onLed fun p hp => .tail _ hp, .head _, .nil, (fun q hq => by cases hq), ne _ mn.1, (fun q hq => by cases hq)⟩
  refine execs_consP (ForRange (n := 2 + an % 5) N S hA.hd g_range v_i (EA.castI (.add .int (.modN (j := 5) (.isI (.locS S N v_a rfl) rfl) .int (by decide))) (by omega)) (by omega)
    (fun I i ρ' led' => ∃ (L : List (Addr × Obj)) (rows : List (Nat × DV)) (rvs : List Value) (m2 : Nat) (tw : Tok) (x6 x7 x8 x9 x10 : Option Value), (∀ p ∈ L, p.1 ≠ I ∧ p ∈ led') ∧ W1 L nl s ds b r ns rows nvs rvs m1 m2 ∧ rows.length ≤ i ∧ (wantOf rows).length ≤ 140 * i ∧ ρ' = LR1 l nl (.int an t) s (.bytes (ba (wantOf rows)) tw) r x6 x7 x8 x9 x10)
    (fun I i ρ led₁ led₂ ⟨L, rows, rvs, m2, tw, x6, x7, x8, x9, x10, h1, h2⟩ hk => ⟨L, rows, rvs, m2, tw, x6, x7, x8, x9, x10, fun q hq => ⟨(h1 q hq).1, hk q.1 q.2 (h1 q hq).2 (h1 q hq).1⟩, h2⟩)
    (fun I h S hI => ⟨_, [], [], 0, tw, none, none, none, none, none, fun q hq => ⟨hI q hq, hq⟩, C0, Nat.le_refl _, Nat.le_refl _, rfl⟩)
    (fun i I oI t2 ρ led₁ h tk hi ⟨L, rows, rvs, m2, tw, x6, x7, x8, x9, x10, h1, C, hl, hw, hρ⟩ mI cI S => ?_)
    (fun I ρ led₁ h tk ⟨L, rows, rvs, m2, tw, x6, x7, x8, x9, x10, h1, C, hl, hw, hρ⟩ S => ?_))
  · subst hρ
    refine turn1 ⟨_, _, _, _, rfl⟩ S hA (by omega) (C.map fun p hp _ => (h1 p hp).2) mI cI hl hw fun led' h' tk' rows' rvs' m2' tw' x7 x8 x9 x10 S' C' hl' hw' kI => ?_
    obtain ⟨L', h1', h2'⟩ := S'.sans (kI _ mI) (.inl cI)
    exact ⟨_, led', h', tk', rfl, S', ⟨L', rows', rvs', m2', tw', _, x7, x8, x9, x10, h1', C'.map h2', hl', hw', rfl⟩, kI⟩
  · subst hρ
    exact k an t s ds b r rows rvs m2 tw x6 x7 x8 x9 x10 led₁ h tk hyn (C.map fun p hp _ => (h1 p hp).2) (by omega) (by omega) S
end
end Mine

end
section
set_option maxRecDepth 100000
open PySem PySem.W PySem.Calls PyProof.Rows
open Sem (wp)
set_option Elab.async false
set_option linter.unusedVariables false
namespace Mine
theorem lenOf_small {q : Nat × DV} (h : RowOK q) : (lenOf q.1 q.2).natAbs < 2 ^ 200 := by
  obtain ⟨k, d⟩ := q
  have hk := h.kind
  have hf := h.fit
  clear h
  match k, d, hk, hf with
  | 0, .int i, _, _ => exact (show Int.natAbs 0 < 2 ^ 200 by decide)
  | 1, .int i, _, _ => exact (show Int.natAbs 0 < 2 ^ 200 by decide)
  | 2, .int i, _, _ => exact (show Int.natAbs 0 < 2 ^ 200 by decide)
  | 3, .int i, _, _ => exact (show Int.natAbs 0 < 2 ^ 200 by decide)
  | 4, .int i, _, _ => exact (show Int.natAbs 0 < 2 ^ 200 by decide)
  | 5, .byt l, _, hf =>
    have h1 : l.length ≤ 1000 := hf.1
    show Int.natAbs (l.length : Int) < 2 ^ 200
    rw [Int.natAbs_natCast]; exact Nat.lt_of_le_of_lt h1 (by decide)
  | 6, .byt l, _, hf =>
    have h1 : l.length ≤ 1000 := hf.1
    show Int.natAbs (l.length : Int) < 2 ^ 200
    rw [Int.natAbs_natCast]; exact Nat.lt_of_le_of_lt h1 (by decide)
theorem big_byt {k : Nat} {d : DV} (hk : k < 7) (hf : Fit k d) (h : 4 < k) : ∃ l, d = .byt l ∧ l.length ≤ 1000 ∧ lenOf k d = l.length ∧ asRead k d = d := by
  match k, d, hk, hf with
  | 5, .byt l, _, hf => exact ⟨l, rfl, hf.1, rfl, rfl⟩
  | 6, .byt l, _, hf => exact ⟨l, rfl, hf.1, rfl, rfl⟩
theorem lenOf_zero {k : Nat} {d : DV} (h : k ≤ 4) : lenOf k d = 0 := by
  match k, h with
  | 0, _ => cases d <;> rfl
  | 1, _ => cases d <;> rfl
  | 2, _ => cases d <;> rfl
  | 3, _ => cases d <;> rfl
  | 4, _ => cases d <;> rfl
theorem asRead_same {k : Nat} {d : DV} (h : k ≠ 2) : asRead k d = d := by
  unfold asRead
  split
  · exact absurd rfl h
  · rfl
section
variable {w : World} {A : Around} {E : Value → Shared → Prop} {Q : Flow → Shared → Prop} {a : Act} {h : Heap} {G : Array GenState} {D : Drawn} {tk : Nat} {O : OsState} {fa : Addr} {cd : Value}

/-- the names of the law, in and behind the second loop -/
abbrev LR2 (l nl : Addr) (av : Value) (s : Addr) (wv : Value) (r : Addr) (x6 x7 x8 x9 x10 : Option Value) (c : Addr) (x12 x13 : Option Value) : List (Option Value) :=
  [some (.ref l), some (.ref nl), some av, some (.ref s), some wv, some (.ref r), x6, x7, x8, x9, x10, some (.ref c), x12, x13, none, none, none, none, none, none, none, none]

theorem turn2 {l nl s r c dc bb : Addr} {an p : Nat} {ta tw : Tok} {q : Nat × DV} {rest want : List Nat} {x6 x7 x8 x9 x10 x12 x13 : Option Value} {t : Addr} {u v : Value} {led : List (Addr × Obj)} {target : Expr} {body : List Stmt} {E' : Value → Shared → Prop}
    (hb : ∃ it pos rest, lawBody.drop 8 = Stmt.For target it body [] pos :: rest)
    (S : St (W0 w) a LX (LR2 l nl (.int an ta) s (.bytes (ba want) tw) r x6 x7 x8 x9 x10 c x12 x13) led h) (hA : AOK A a 40)
    (C : Cur led c dc (.ref bb) want p) (hq : RowOK q) (hen : (enc q.1 q.2).isSome = true) (hwx : ∀ x ∈ want, x < 256) (hwl : want.length ≤ 840) (hp : p ≤ want.length) (hdrop : want.drop p = octs q ++ rest)
    (mt : (t, tupO [u, v]) ∈ led) (hu : IsI (q.1 : Nat) u) (hv : q.2.Is v)
    (k : ∀ led' h' tk' x8 x9 x12 x13, St (W0 w) a LX (LR2 l nl (.int an ta) s (.bytes (ba want) tw) r x6 x7 x8 x9 x10 c x12 x13) led' h' → Cur led' c dc (.ref bb) want (p + (octs q).length) → (∀ r ∈ led, r.1 ≠ dc → r ∈ led') → Q .next ⟨h', G, D, tk', O⟩) :
    wpP (W0 w).M A (assign target (envLaw a.L fa cd) (.ref t)) (fun _ s₁ => wpP (W0 w).M A (execs body (envLaw a.L fa cd)) Q E s₁) E' ⟨h, G, D, tk, O⟩ := by
  obtain ⟨_, _, _, hb⟩ := hb
  cases hb
  have N := nlaw (a := a) (fa := fa) (cd := cd)
  obtain ⟨kind, d⟩ := q
  have hk : kind < 7 := hq.kind
  have hf : Fit kind d := hq.fit
  obtain ⟨o, he⟩ := Option.isSome_iff_exists.mp hen
  have he : enc kind d = some o := he
  have hO : octs (kind, d) = o := by unfold octs; rw [he]; rfl
  rw [hO] at hdrop k
  have hlook : look kind (lenOf kind d) (want.drop p) = .ok (asRead kind d) o.length := by rw [hdrop]; exact look_enc rest hf he
  obtain ⟨f1, f2, f3⟩ := asRead_fits hq
  obtain ⟨t1, rfl⟩ := hu
  have hv : d.Is v := hv
  refine tupleP S hA.hd mt rfl rfl fun h S => ?_
  refine inOrder_consP (targetP N S v_kind fun h tk S => inOrder_consP (targetP N S v_value fun h tk S => inOrder_nilP ?_))
  refine execs_join (I := fun s' => ∃ v' h tk, s' = ⟨h, G, D, tk, O⟩ ∧ (asRead kind d).Is v' ∧ St (W0 w) a LX (LR2 l nl (.int an ta) s (.bytes (ba want) tw) r x6 x7 (some (.int (kind : Nat) t1)) (some v') x10 c x12 x13) led h) (IfE S (.eq (.locI N v_kind rfl) .int) (fun hb h tk S => ?_) (fun hb h tk S => ?_)) ?_
  · have e2 : kind = 2 := by simp at hb; omega
    subst e2
    obtain ⟨iv, rfl⟩ := fit_int (kind := 2) (by decide) hf
    obtain ⟨t2, rfl⟩ := hv
    refine execs_consP (SetE N S (.ne (.locI N v_value rfl) .int) v_value fun v' h tk hv' S => ?_)
    exact execs_nilP ⟨rfl, v', h, tk, rfl, hv', S⟩
  · have e2 : kind ≠ 2 := by simp at hb; omega
    exact execs_nilP ⟨rfl, v, h, tk, rfl, by rw [asRead_same e2]; exact hv, S⟩
  rintro _ ⟨v', h, tk, rfl, hv', S⟩
  refine execs_consP (SetTupleP (CallE N S g__law_read rfl (.three (.loc N v_cursor rfl) (.loc N v_kind rfl) (.ifexp (P := IsI (lenOf kind d)) (.gt (.locI N v_kind rfl) .int) (fun hc => ?_) (fun hc => .castI .int ?_))) fun vs h tk hvs S => ?_))
  · obtain ⟨l', rfl, h1, h2, h3⟩ := big_byt hk hf (by simp at hc; omega)
    rw [h2]
    rw [h3] at hv'
    exact .lenOct N g_len ((Ev.loc N v_value rfl).mono fun u e => e ▸ IsB.oct hv') (by omega)
  · rw [lenOf_zero (by simp at hc; omega)]
  obtain ⟨_, _, _, rfl, rfl, rfl, t2, rfl⟩ := hvs
  refine callP (c_lread S hA.le C hwx (by omega) hp hk (lenOf_small hq) fun y u v led' h tk hu hv2 S C' kp ne => ?_)
  rw [hlook] at hu hv2 C'
  obtain ⟨t3, rfl⟩ := hu
  refine tupleP S hA.hd (.head _) rfl rfl fun h S => ?_
  refine inOrder_consP (targetP N S v_code fun h tk S => inOrder_consP (targetP N S v_given fun h tk S => inOrder_nilP ?_))
  have S := S.onLed (led' := led') fun p hp => .tail _ hp
  refine execs_consP (IfE S (.cast (c := false) (.bop (.or (b := ((0 : Int) != 0)) (.ne (.locI N v_code rfl) .int) fun _ => .or (.neV (d := asRead kind d) ((Ev.loc N v_given rfl).mono fun u e => e ▸ hv2) ((Ev.loc N v_value rfl).mono fun u e => e ▸ hv') f3) fun _ => .or (.not (.val (b := true) (.call N g__law_kind_fits rfl (.two (.loc N v_kind rfl) (.loc N v_given rfl)) fun S p q => ?_))) fun _ => .nilOr)) rfl) (fun hb => by cases hb) (fun _ h tk S => execs_nilP (execs_nilP ?_)))
  · obtain ⟨_, _, rfl, rfl, rfl⟩ := p
    exact callP (c_fits S hA.le hv2 f1 f2 fun h tk S => q _ h tk rfl S)
  · exact k led' h tk _ _ _ _ S C' kp

/-- the second loop and its end -/
theorem law_reads {l nl s ds b r : Addr} {an : Nat} {ta tw : Tok} {ns : List Int} {rows : List (Nat × DV)} {nvs rvs : List Value} {m1 m2 : Nat} {x6 x7 x8 x9 x10 : Option Value} {led : List (Addr × Obj)}
    (S : St (W0 w) a LX (LR1 l nl (.int an ta) s (.bytes (ba (wantOf rows)) tw) r x6 x7 x8 x9 x10) led h) (hA : AOK A a 40) (C : W1 led nl s ds b r ns rows nvs rvs m1 m2) (hwl : (wantOf rows).length ≤ 840) (hrl : rows.length ≤ 6)
    (k : ∀ c x8 x9 x12 x13 led h tk, (nl, lstO nvs m1) ∈ led → St (W0 w) a LX (LR2 l nl (.int an ta) s (.bytes (ba (wantOf rows)) tw) r x6 x7 x8 x9 x10 c x12 x13) led h →
      wpP (W0 w).M A (execs (lawBody.drop 10) (envLaw a.L fa cd)) Q E ⟨h, G, D, tk, O⟩) :
    wpP (W0 w).M A (execs (lawBody.drop 7) (envLaw a.L fa cd)) Q E ⟨h, G, D, tk, O⟩ := by
  have N := nlaw (a := a) (fa := fa) (cd := cd)
  have hwx := wantOf_lt C.rok
  have hrvl := C.rws.length
  show wpP _ _ (execs (_ :: _) _) _ _ _
  refine execs_consP (AssignNameP (CallNameP N S g_Cursor (by kernel_rfl) (fun h tk S => spliced_consP (CallE N S g_bytearray rfl (.one (.loc N v_want rfl)) fun vs h tk hv S => ?_))))
  obtain ⟨_, rfl, rfl⟩ := hv
  refine call_ba1 S (by omega) fun bb h S ne => spliced_nilP ⟨S.X, ?_⟩
  refine newCur1 S hA.le (.inr ⟨bb, rfl, .head _⟩) (by omega) fun c dc led1 h tk S Cc kp => ?_
  have kp1 : ∀ p ∈ led, p ∈ led1 := fun p hp => (kp p (.tail _ hp)).1
  refine storeL S v_cursor N.loc N.kind N.names fun h tk S => ?_
  refine execs_consP (ForList (vs := rvs) N S hA.hd rfl (.loc N v_rows rfl) (kp1 _ C.lst) (by omega)
    (fun I i ρ' led' => ∃ (L : List (Addr × Obj)) (x8 x9 x12 x13 : Option Value), (∀ p ∈ L, p.1 ≠ I ∧ p ∈ led') ∧ (nl, lstO nvs m1) ∈ L ∧ RowsAre L rvs rows ∧ Cur L c dc (.ref bb) (wantOf rows) (wantOf (rows.take i)).length ∧ ρ' = LR2 l nl (.int an ta) s (.bytes (ba (wantOf rows)) tw) r x6 x7 x8 x9 x10 c x12 x13)
    (fun I i ρ led₁ led₂ ⟨L, x8, x9, x12, x13, h1, h2⟩ hk => ⟨L, x8, x9, x12, x13, fun q hq => ⟨(h1 q hq).1, hk q.1 q.2 (h1 q hq).2 (h1 q hq).1⟩, h2⟩)
    (fun I h S hI => ⟨_, _, _, none, none, fun q hq => ⟨hI q hq, hq⟩, kp1 _ C.nums, C.rws.map fun p hp _ => kp1 p hp, Cc, rfl⟩)
    (fun i I oI v ρ led₁ h tk hvi ⟨L, x8, x9, x12, x13, h1, mn, RA, CC, hρ⟩ mI cI my S => ?_)
    (fun I ρ led₁ h tk ⟨L, x8, x9, x12, x13, h1, mn, RA, CC, hρ⟩ S => ?_))
  · subst hρ
    obtain ⟨t, u, v', q, rfl, mt, hq, hu, hv⟩ := RA.get hvi
    obtain ⟨hd1, hd2⟩ := wantOf_at hq
    have hle : (wantOf (rows.take i)).length ≤ (wantOf rows).length := by
      have := congrArg List.length hd1
      have e1 : wantOf rows = wantOf (rows.take i) ++ wantOf (rows.drop i) := by unfold wantOf; rw [← List.flatMap_append, List.take_append_drop]
      rw [e1, List.length_append]; omega
    have CL : Cur led₁ c dc (.ref bb) (wantOf rows) _ := CC.onLed fun p hp => (h1 p hp).2
    have hqm : q ∈ rows := List.mem_of_getElem? hq
    obtain ⟨es, n, tt, md, g1, g2, g3, g4⟩ := CL.dct
    refine turn2 ⟨_, _, _, rfl⟩ S hA CL (C.rok q hqm) (C.ren q hqm) hwx hwl hle hd1 (h1 _ mt).2 hu hv fun led' h' tk' x8 x9 x12 x13 S' C' kp' => ?_
    have ndc : ∀ p ∈ led₁, p.2.cls ≠ .type "dict" → p.1 ≠ dc := fun p hp hc => S.ne (o := p.2) hp md (ne_of_cls hc)
    have nI : ∀ o, (I, o) ∈ led₁ → (I, o) ∈ led' := fun o m => kp' _ m (ndc _ m (by
      have e1 := S.get m
      rw [S.get mI] at e1; cases e1
      rw [cI]; decide))
    obtain ⟨L', h1', h2'⟩ := S'.sans (nI _ mI) (.inr cI)
    refine ⟨_, led', h', tk', rfl, S', ⟨L', x8, x9, x12, x13, h1', h2' _ (kp' _ (h1 _ mn).2 (ndc _ (h1 _ mn).2 (show (Value.type "list" : Value) ≠ _ by decide))) notIt_list, RA.map fun p hp hc => h2' p (kp' p (h1 p hp).2 (ndc p (h1 p hp).2 (by rw [hc]; decide))) (notIt_tup hc), ?_, rfl⟩, nI, kp' _ my (ndc _ my (show (Value.type "list" : Value) ≠ _ by decide))⟩
    rw [hd2, List.length_append]
    exact C'.map h2'
  · subst hρ
    have CL : Cur led₁ c dc (.ref bb) (wantOf rows) _ := CC.onLed fun p hp => (h1 p hp).2
    rw [hrvl, List.take_length] at CL
    obtain ⟨es, n, tt, md, g1, g2, g3, g4⟩ := CL.dct
    refine execs_consP (ExprP (MethC S (.loc N v_cursor rfl) CL.inst md me_Cursor_done (g4.none (by decide)) .nil (fun vs h tk hv S => ?_) _))
    subst hv
    refine m_cdone S hA.le CL (by omega) (Nat.le_refl _) (fun _ h tk S => ?_) (fun hc => absurd hc (Nat.lt_irrefl _))
    exact k c _ _ _ _ led₁ h tk (h1 _ mn).2 S
end
end Mine

end
section
set_option maxRecDepth 100000
open PySem PySem.W PySem.Calls PyProof.Rows
open Sem (wp)
set_option Elab.async false
set_option linter.unusedVariables false
namespace Mine
/-- what the second sink holds, between two turns -/
structure Ag (want parts : List Nat) (st p : Nat) (sh : Bool) : Prop where
  le : st ≤ p
  inn : p ≤ want.length
  len : parts.length ≤ p - st
  ok : sh = false → parts = (want.drop st).take (p - st)
  short : sh = true → parts.length < p - st
  lt : ∀ x ∈ parts, x < 256
theorem Ag.step {want parts o : List Nat} {st p k : Nat} {sh b : Bool} (H : Ag want parts st p sh) (hk : k ≤ (want.drop p).length) (o1 : o.length ≤ k) (o2 : o.length = k → o = (want.drop p).take k) (ox : ∀ x ∈ o, x < 256) (hb : b = decide (o.length ≠ k)) : Ag want (parts ++ o) st (p + k) (sh || b) := by
  have h1 := H.le
  have h2 := H.inn
  have h3 := H.len
  rw [List.length_drop] at hk
  refine ⟨by omega, by omega, by rw [List.length_append]; omega, fun e => ?_, fun e => ?_, fun x hx => ?_⟩
  · rw [Bool.or_eq_false_iff] at e
    obtain ⟨e1, e2⟩ := e
    rw [hb, decide_eq_false_iff_not] at e2
    have e2 : o.length = k := by omega
    rw [H.ok e1, o2 e2, show p + k - st = (p - st) + k by omega, List.take_add, List.drop_drop, show st + (p - st) = p by omega]
  · rw [List.length_append]
    rw [Bool.or_eq_true] at e
    rcases e with e | e
    · have := H.short e; omega
    · rw [hb, decide_eq_true_eq] at e; omega
  · rcases List.mem_append.mp hx with hx | hx
    · exact H.lt x hx
    · exact ox x hx
theorem enc_octets {kind : Nat} {d : DV} {o : List Nat} (hf : FitW kind d) (h : enc kind d = some o) : ∀ x ∈ o, x < 256 := by
  rcases hf with hf | ⟨rfl, b, rfl⟩
  · exact (enc_lt hf h).1
  · cases h
    intro x hx
    simp at hx; subst hx; split <;> omega
theorem ans_cases {kind : Nat} {n : Int} {l : List Nat} (hk : kind < 7) (hl : ∀ x ∈ l, x < 256) (hz : l.length ≤ 1000) : ((look kind n l).code = 0 → (look kind n l).dv.isB = decide (kind > 4) ∧ (look kind n l).dv.isF = (kind == 2)) ∧ (∀ b, (look kind n l).dv = .byt b → ∀ x ∈ b, x < 256) ∧
    ((look kind n l).code = 0 → ∃ v k, look kind n l = .ok v k) ∧ ((look kind n l).code ≠ 0 → (look kind n l).size = 0) := by
  cases e : look kind n l with
  | ok v k =>
    obtain ⟨_, _, h1, h2, h3, _⟩ := look_fit hk e hl hz
    exact ⟨fun _ => ⟨h1, h2⟩, h3, fun _ => ⟨v, k, rfl⟩, fun h => absurd rfl h⟩
  | short => exact ⟨fun h => absurd h (show (1 : Int) ≠ 0 from by decide), (fun b h => by cases h), fun h => absurd h (show (1 : Int) ≠ 0 from by decide), fun _ => rfl⟩
  | bad => exact ⟨fun h => absurd h (show (2 : Int) ≠ 0 from by decide), (fun b h => by cases h), fun h => absurd h (show (2 : Int) ≠ 0 from by decide), fun _ => rfl⟩
theorem fitW_fit {kind : Nat} {d : DV} (h : FitW kind d) (n : kind ≠ 2) : Fit kind d := by
  rcases h with h | ⟨h, _⟩
  · exact h
  · exact absurd h n

section
variable {w : World} {A : Around} {E : Value → Shared → Prop} {Q : Flow → Shared → Prop} {a : Act} {h : Heap} {G : Array GenState} {D : Drawn} {tk : Nat} {O : OsState} {fa : Addr} {cd : Value}

/-- the names of the law, in and behind the third loop -/
abbrev LR3 (l nl : Addr) (av sv wv rv : Value) (x6 x7 x8 x9 x10 : Option Value) (c : Addr) (x12 x13 : Option Value) (stv : Value) (g : Addr) (atv shv : Value) (x18 x19 x20 x21 : Option Value) : List (Option Value) :=
  [some (.ref l), some (.ref nl), some av, some sv, some wv, some rv, x6, x7, x8, x9, x10, some (.ref c), x12, x13, some stv, some (.ref g), some atv, some shv, x18, x19, x20, x21]

theorem turn3 {l nl c dc g gd gb : Addr} {an i p st : Nat} {ta tw ti ts tp : Tok} {sv rv : Value} {want parts : List Nat} {ns : List Int} {nvs : List Value} {m1 : Nat} {sh : Bool} {x7 x8 x9 x10 x12 x13 x18 x19 x20 x21 : Option Value} {led : List (Addr × Obj)} {body : List Stmt} {I : Addr} {oI : Obj}
    (hb : ∃ t it pos rest, lawBody.drop 15 = Stmt.For t it body [] pos :: rest)
    (S : St (W0 w) a LX (LR3 l nl (.int an ta) sv (.bytes (ba want) tw) rv (some (.int (i : Nat) ti)) x7 x8 x9 x10 c x12 x13 (.int (st : Nat) ts) g (.int (p : Nat) tp) (.bool sh) x18 x19 x20 x21) led h) (hA : AOK A a 40) (hi : i < 10)
    (mn : (nl, lstO nvs m1) ∈ led) (its : IntsAre nvs ns) (nok : NumsOK ns) (C : Cur led c dc (.bytes (ba want) tw) want p) (K : Snk led g gd gb parts) (H : Ag want parts st p sh) (ncg : dc ≠ gd)
    (hwx : ∀ x ∈ want, x < 256) (hwl : want.length ≤ 840) (mI : (I, oI) ∈ led) (cI : oI.cls = .type "range_iterator")
    (k : ∀ led' h' tk' p' tp' parts' sh' x7 x8 x9 x10 x12 x13 x18 x19 x20 x21, St (W0 w) a LX (LR3 l nl (.int an ta) sv (.bytes (ba want) tw) rv (some (.int (i : Nat) ti)) x7 x8 x9 x10 c x12 x13 (.int (st : Nat) ts) g (.int (p' : Nat) tp') (.bool sh') x18 x19 x20 x21) led' h' →
      (nl, lstO nvs m1) ∈ led' → Cur led' c dc (.bytes (ba want) tw) want p' → Snk led' g gd gb parts' → Ag want parts' st p' sh' → (∀ o, (I, o) ∈ led → (I, o) ∈ led') → Q .next ⟨h', G, D, tk', O⟩) :
    wpP (W0 w).M A (execs body (envLaw a.L fa cd)) Q E ⟨h, G, D, tk, O⟩ := by
  obtain ⟨_, _, _, _, hb⟩ := hb
  cases hb
  have N := nlaw (a := a) (fa := fa) (cd := cd)
  obtain ⟨yn, hy, hyn⟩ := draw_nat nok (7 + i) (by omega)
  -- y
  refine execs_consP (AssignNameP (CallE N S g__law_draw rfl (.two (.loc N v_nums rfl) (.castI (j := ((7 + i : Nat) : Int)) (.add .int (.locI N v_i rfl)) (by omega))) fun vs h tk hv S => ?_))
  obtain ⟨_, _, rfl, rfl, t1, rfl⟩ := hv
  refine callP (c_draw S hA.le mn its nok.ne (by have := nok.len; omega) fun t h tk S => ?_)
  rw [hy]
  refine storeL S v_y N.loc N.kind N.names fun h tk S => ?_
  -- kind
  obtain ⟨kd, hkd⟩ : ∃ kd : Nat, kd = if i > 0 then yn % 7 else 1 := ⟨_, rfl⟩
  have hk : kd < 7 := by rw [hkd]; split <;> omega
  refine execs_consP (SetE N S (.ifexp (P := IsI (kd : Nat)) (.gt (.locI N v_i rfl) .int) (fun hc => .castI (.modN (j := 7) (.locI N v_y rfl) .int (by decide)) (by rw [hkd, if_pos (by simp at hc; omega)])) (fun hc => .castI .int (by rw [hkd, if_neg (by simp at hc; omega)]; rfl))) v_kind fun v h tk ⟨t2, hv⟩ S => ?_)
  subst hv
  clear hkd
  -- n
  refine execs_consP (SetE N S (.sub (.modN (j := 7) (.divN (j := 7) (.locI N v_y rfl) .int (by decide) (by decide)) .int (by decide)) .int) v_n fun v h tk ⟨t3, hv⟩ S => ?_)
  subst hv
  have hn : ((yn / 7 % 7 : Nat) : Int) - 1 < 2 ^ 60 ∧ -(2 : Int) ^ 60 < ((yn / 7 % 7 : Nat) : Int) - 1 := by constructor <;> omega
  obtain ⟨n, hnn⟩ : ∃ n : Int, n = ((yn / 7 % 7 : Nat) : Int) - 1 := ⟨_, rfl⟩
  rw [← hnn] at S
  have hn1 : n.natAbs < 2 ^ 60 := by omega
  have hn2 : n.natAbs < 2 ^ 200 := Nat.lt_trans hn1 (by decide)
  clear hnn hn
  -- look
  have hpl := H.inn
  have hdx : ∀ x ∈ want.drop p, x < 256 := fun x hx => hwx x (List.mem_of_mem_drop hx)
  have hdl : (want.drop p).length ≤ 1000 := by rw [List.length_drop]; omega
  refine execs_consP (SetTupleP (CallE N S g__law_look rfl (.three (.cutB ((Ev.loc N v_want rfl).mono fun u e => ⟨tw, e⟩) (by omega) ⟨_, rfl, .locI N v_at rfl⟩ rfl) (.loc N v_kind rfl) (.loc N v_n rfl)) fun vs h tk hv S => ?_))
  obtain ⟨bv, _, _, rfl, hbv, rfl, rfl⟩ := hv
  rw [cut_from] at hbv
  refine callP (c_llook S hA.le hbv hdx (by omega) hk hn1 fun y u v s h tk hu hv hs S ne => ?_)
  obtain ⟨F1, F2, F3, F4⟩ := ans_cases (n := n) hk hdx hdl
  have hlk : ∀ v k, look kd n (want.drop p) = .ok v k → FitW kd v ∧ (∀ i, v = .int i → i.natAbs < 2 ^ 200) ∧ Tight (want.drop p) k (enc kd v) (kd ≠ 1 ∧ kd ≠ 5) := fun v k e => ⟨(look_fit hk e hdx hdl).1, (look_fit hk e hdx hdl).2.1, look_tight hk e hdx⟩
  obtain ⟨t4, rfl⟩ := hu
  obtain ⟨t5, rfl⟩ := hs
  refine tupleP S hA.hd (.head _) rfl rfl fun h S => ?_
  refine inOrder_consP (targetP N S v_code fun h tk S => inOrder_consP (targetP N S v_value fun h tk S => inOrder_consP (targetP N S v_size fun h tk S => inOrder_nilP ?_)))
  have S := S.onLed (led' := led) fun p hp => .tail _ hp
  -- read
  obtain ⟨es, nn, tt, md, g1, g2, g3, g4⟩ := C.dct
  obtain ⟨ks, kn, kmd, q1, q2⟩ := K.dct
  refine execs_consP (AssignNameP (CallE N S g__law_read rfl (.three (.loc N v_cursor rfl) (.loc N v_kind rfl) (.loc N v_n rfl)) fun vs h tk hv S => ?_))
  obtain ⟨_, _, _, rfl, rfl, rfl, rfl⟩ := hv
  refine callP (c_lread S hA.le C hwx (by omega) hpl hk hn2 fun y2 u2 v2 led1 h tk hu2 hv2 S1 C1 kp ne2 => ?_)
  have ndc : ∀ q ∈ led, q.2.cls ≠ .type "dict" → q ∈ led1 := fun q hq hc => kp q hq (S.ne (o := q.2) hq md (ne_of_cls hc))
  have K1 : Snk led1 g gd gb parts := ⟨ndc _ K.inst (show (Value.ref 317 : Value) ≠ _ by decide), ⟨ks, kn, kp _ kmd (Ne.symm ncg), q1, q2⟩, ndc _ K.oct (show (Value.type "bytearray" : Value) ≠ _ by decide)⟩
  have mn1 := ndc _ mn (show (Value.type "list" : Value) ≠ _ by decide)
  have keepI1 : ∀ o, (I, o) ∈ led → (I, o) ∈ led1 := fun o m => ndc _ m (by
    have e1 := S.get m
    rw [S.get mI] at e1; cases e1
    rw [cI]; decide)
  refine storeL S1 v_told N.loc N.kind N.names fun h tk S2 => ?_
  generalize hans : look kd n (want.drop p) = ans at hv hu2 hv2 C1 S2 F1 F2 F3 F4 hlk S S1
  obtain ⟨led2, hled2⟩ : ∃ led2, led2 = (y2, tupO [u2, v2]) :: led1 := ⟨_, rfl⟩
  have my2 : (y2, tupO [u2, v2]) ∈ led2 := hled2 ▸ .head _
  have sub2 : ∀ q ∈ led1, q ∈ led2 := fun q hq => hled2 ▸ .tail _ hq
  rw [← hled2] at S2
  -- told
  refine execs_consP (IfE S2 (.cast (c := false) (.bop (.or (.neTup (c := .int ans.code) (d := ans.dv) hA.units (.loc N v_told rfl) my2 hu2 hv2 (.two ((Ev.locI N v_code rfl).mono fun _ e => e) ((Ev.loc N v_value rfl).mono fun u e => e ▸ hv)) (fun l e => by cases e) F2) fun _ => .or (.bop (.and (.eq (.locI N v_code rfl) .int) fun hc => .and (.not (.val (b := true) (.call N g__law_kind_fits rfl (.two (.loc N v_kind rfl) (.itemT (.loc N v_told rfl) my2 .int (by decide) rfl (show 2 ≤ 1000000 by decide))) fun S p q => ?_))) fun _ => .nilAnd)) fun _ => .nilOr)) (by simp)) (fun hb => by cases hb) (fun _ h tk S2 => execs_nilP ?_))
  · obtain ⟨_, _, rfl, rfl, rfl⟩ := p
    have h0 : ans.code = 0 := by simpa using hc
    exact callP (c_fits S hA.le hv2 (F1 h0).1 (F1 h0).2 fun h tk S => q _ h tk rfl S)
  -- again
  refine execs_join (I := fun s' => ∃ led3 h tk p' tp' parts' sh', s' = ⟨h, G, D, tk, O⟩ ∧ St (W0 w) a LX (LR3 l nl (.int an ta) sv (.bytes (ba want) tw) rv (some (.int (i : Nat) ti)) (some (.int (yn : Nat) t)) (some (.int (kd : Nat) t2)) (some v) x10 c (some (.int ans.code t4)) x13 (.int (st : Nat) ts) g (.int (p' : Nat) tp') (.bool sh') (some (.int n t3)) (some (.int (ans.size : Nat) t5)) (some (.ref y2)) x21) led3 h ∧ p' = p + ans.size ∧ Snk led3 g gd gb parts' ∧ Ag want parts' st p' sh' ∧ ∀ r ∈ led2, r.1 ≠ gb → r ∈ led3)
    (IfE S2 (.eq (.locI N v_code rfl) .int) (fun hb h tk S3 => ?_) (fun hb h tk S3 => ?_)) ?_
  · have h0 : ans.code = 0 := by simpa using hb
    obtain ⟨vv, kk, rfl⟩ := F3 h0
    obtain ⟨hfw, hsm, hti⟩ := hlk vv kk rfl
    obtain ⟨T1, o, T2, T3, T4, T5⟩ := hti
    have hox := enc_octets hfw T2
    refine execs_consP (AugAdd N S3 v_at rfl (.locI N v_size rfl) fun t6 h tk S3 => ?_)
    have ep : (p : Int) + ((Ans.size (.ok vv kk) : Nat) : Int) = ((p + kk : Nat) : Int) := by show (p : Int) + (kk : Int) = _; omega
    rw [ep] at S3
    have hpl2 : parts.length ≤ 840 := by have := H.len; omega
    refine execs_join (I := fun s' => ∃ led3 h tk, s' = ⟨h, G, D, tk, O⟩ ∧ St (W0 w) a LX (LR3 l nl (.int an ta) sv (.bytes (ba want) tw) rv (some (.int (i : Nat) ti)) (some (.int (yn : Nat) t)) (some (.int (kd : Nat) t2)) (some v) x10 c (some (.int (Ans.code (.ok vv kk)) t4)) x13 (.int (st : Nat) ts) g (.int ((p + kk : Nat) : Int) t6) (.bool sh) (some (.int n t3)) (some (.int (Ans.size (.ok vv kk) : Nat) t5)) (some (.ref y2)) x21) led3 h ∧ Snk led3 g gd gb (parts ++ o) ∧ ∀ r ∈ led2, r.1 ≠ gb → r ∈ led3)
      (IfP (TestNotP (TestP (CallE N S3 g__law_write rfl (.three (.loc N v_again rfl) (.loc N v_kind rfl) (.itemT (.loc N v_told rfl) my2 .int (by decide) rfl (show 2 ≤ 1000000 by decide))) fun vs h tk hvs S3 => ?_)))) ?_
    · obtain ⟨_, _, _, rfl, rfl, rfl, rfl⟩ := hvs
      refine callP (c_lwrite S3 hA.le (K1.onLed sub2) (by omega) hk hfw hv2 hsm (fun o' e led3 h tk S4 K4 kp4 => ?_) (fun e h tk S4 => ?_))
      · rw [T2] at e; cases e
        refine truthyB ?_
        exact execs_nilP ⟨rfl, led3, h, tk, rfl, S4, K4, kp4⟩
      · rw [T2] at e; cases e
    rintro _ ⟨led3, h, tk, rfl, S4, K4, kp4⟩
    have fin : ∀ b, b = decide (o.length ≠ kk) → Ag want (parts ++ o) st (p + kk) (sh || b) := fun b hb => H.step T1 T3 T4 hox hb
    by_cases h15 : kd = 1 ∨ kd = 5
    · have hfit : Fit kd vv := fitW_fit hfw (by omega)
      have hol : o.length ≤ 1000 := by rw [List.length_drop] at T1; omega
      refine execs_consP (IfE S4 (.cast (c := decide (o.length ≠ kk)) (.bop (.and (.bop (.or (.eq (.locI N v_kind rfl) .int) fun _ => .or (.eq (.locI N v_kind rfl) .int) fun _ => .nilOr)) fun _ => .and (.ne (.locI N v_size rfl) (.lenOct N g_len ((Ev.call (T := IsB o) N g__law_octets rfl (.two (.loc N v_kind rfl) (.loc N v_value rfl)) fun S p q => ?_).mono fun u e => e.oct) (by omega))) fun _ => .nilAnd)) ?_) (fun hb h tk S5 => ?_) (fun hb h tk S5 => ?_))
      · obtain ⟨_, _, rfl, rfl, rfl⟩ := p
        refine callP (c_loctets S hA.le hk hfit hv hsm fun u h tk hu S => q u h tk ?_ S)
        rw [T2] at hu; exact hu
      · rw [Bool.eq_iff_iff]
        show _ ↔ _
        simp only [Bool.and_eq_true, Bool.or_eq_true, beq_iff_eq, bne_iff_ne, decide_eq_true_eq, Bool.or_false, and_true]
        show _ ∧ ((kk : Nat) : Int) ≠ _ ↔ _
        constructor
        · rintro ⟨_, z⟩; omega
        · intro z; exact ⟨by omega, by omega⟩
      · refine execs_consP (SetE N S5 .bool v_short fun v6 h tk hv6 S6 => ?_)
        subst hv6
        have F := fin true hb.symm
        rw [Bool.or_true] at F
        exact execs_nilP (execs_nilP ⟨rfl, led3, h, tk, p + kk, t6, parts ++ o, true, rfl, S6, rfl, K4, F, kp4⟩)
      · have F := fin false hb.symm
        rw [Bool.or_false] at F
        exact execs_nilP (execs_nilP ⟨rfl, led3, h, tk, p + kk, t6, parts ++ o, sh, rfl, S5, rfl, K4, F, kp4⟩)
    · have hko : o.length = kk := T5 ⟨fun e => h15 (.inl e), fun e => h15 (.inr e)⟩
      refine execs_consP (IfE S4 (.cast (c := false) (.bop (.and (b := false) (.cast (.bop (.or (.eq (.locI N v_kind rfl) .int) fun _ => .or (.eq (.locI N v_kind rfl) .int) fun _ => .nilOr)) ?_) (c := true) fun e => by cases e)) rfl) (fun hb => by cases hb) (fun hb h tk S5 => ?_))
      · simp only [Bool.or_eq_false_iff, beq_eq_false_iff_ne]
        exact ⟨by omega, by omega, trivial⟩
      · have F := fin false (by simp [hko])
        rw [Bool.or_false] at F
        exact execs_nilP (execs_nilP ⟨rfl, led3, h, tk, p + kk, t6, parts ++ o, sh, rfl, S5, rfl, K4, F, kp4⟩)
  · have h0 : ans.code ≠ 0 := by simpa using hb
    have hs0 := F4 h0
    exact execs_nilP ⟨rfl, led2, h, tk, p, tp, parts, sh, rfl, S3, by rw [hs0]; rfl, K1.onLed sub2, H, fun r hr _ => hr⟩
  rintro _ ⟨led3, h, tk, p', tp', parts', sh', rfl, S3, hp', K3, H3, kp3⟩
  have ngb : ∀ q ∈ led2, q.2.cls ≠ .type "bytearray" → q ∈ led3 := fun q hq hc => kp3 q hq (S2.ne (o := q.2) hq (sub2 _ K1.oct) (ne_of_cls hc))
  have C3 : Cur led3 c dc (.bytes (ba want) tw) want p' := by
    rw [hp']
    refine ⟨ngb _ (sub2 _ C1.inst) (show (Value.ref 240 : Value) ≠ _ by decide), ?_, .inl ⟨tw, rfl⟩⟩
    obtain ⟨es, n, t, m, r⟩ := C1.dct
    exact ⟨es, n, t, ngb _ (sub2 _ m) (show (Value.type "dict" : Value) ≠ _ by decide), r⟩
  refine execs_consP (IfE S3 (.cast (c := false) (.bop (.or (.ne (.curAt N v_cursor rfl C3) (.locI N v_at rfl)) fun _ => .or (.ne (.left (n := 0) hA.le (.loc N v_cursor rfl) C3 (by omega) _ rfl) (.sub (.lenOct N g_len ((Ev.loc N v_want rfl).mono fun u e => e ▸ (Or.inl ⟨tw, rfl⟩ : Oct led3 _ want)) (by omega)) (.locI N v_at rfl))) fun _ => .nilOr)) (by simp)) (fun hb => by cases hb) (fun _ h tk S4 => execs_nilP (execs_nilP ?_)))
  exact k led3 h tk p' tp' parts' sh' _ _ _ _ _ _ _ _ _ _ S4 (ngb _ (sub2 _ mn1) (show (Value.type "list" : Value) ≠ _ by decide)) C3 K3 H3 fun o m => ngb _ (sub2 _ (keepI1 o m)) (by
    have e1 := S.get m
    rw [S.get mI] at e1; cases e1
    rw [cI]; decide)
end
end Mine

end
section
set_option maxRecDepth 100000
open PySem PySem.W PySem.Calls PyProof.Rows
open Sem (wp)
set_option Elab.async false
set_option linter.unusedVariables false
namespace Mine
section
variable {W : Wd} {A : Around} {E : Value → Shared → Prop} {a : Act} {xs : List Str} {ρ' : List (Option Value)} {led' : List (Addr × Obj)} {h : Heap} {G : Array GenState} {D : Drawn} {tk : Nat} {O : OsState} {env : Env}
theorem TryL {body : List Stmt} {h₀ : ExceptHandler} {hs : List ExceptHandler} {pos : Pos} {n : Nat} {P : Addr → Prop} {Q : Flow → Shared → Prop} {s : Shared} (N : EnvOK env a xs) (hA : AOK A a n) (he : a.envs = [env])
    (k : wpP W.M A (execs body env) Q (fun e s => ∃ ea C h tk, e = .ref ea ∧ s = ⟨h, G, D, tk, O⟩ ∧ Er W a xs ρ' led' ea C h ∧ P C) s)
    (hk : ∀ ea C h tk, P C → Er W a xs ρ' led' ea C h → wpP W.M A (handleBy (.ref ea) env (h₀ :: hs)) Q E ⟨h, G, D, tk, O⟩) :
    wpP W.M A (exec (.Try body (h₀ :: hs) [] [] pos) env) Q E s := by
  refine TryP (monoP k (fun _ _ z => z) fun e s z => ?_)
  obtain ⟨ea, C, h, tk, rfl, rfl, r, pc⟩ := z
  exact caughtP (t := handleBy (.ref ea) env (h₀ :: hs)) r hA.fr (by rw [he]; rfl) (by rw [he]; simp) N.fra fun h₃ r => hk ea C h₃ tk pc r
end
section
variable {w : World} {A : Around} {E : Value → Shared → Prop} {Q : Flow → Shared → Prop} {a : Act} {h : Heap} {G : Array GenState} {D : Drawn} {tk : Nat} {O : OsState} {fa : Addr} {cd : Value}

/-- the end -/
theorem law_end {l nl c dc g gd gb : Addr} {an p st : Nat} {ta tw ts tp : Tok} {sv rv : Value} {want parts : List Nat} {sh : Bool} {x6 x7 x8 x9 x10 x12 x13 x18 x19 x20 x21 : Option Value} {led : List (Addr × Obj)}
    (S : St (W0 w) a LX (LR3 l nl (.int an ta) sv (.bytes (ba want) tw) rv x6 x7 x8 x9 x10 c x12 x13 (.int (st : Nat) ts) g (.int (p : Nat) tp) (.bool sh) x18 x19 x20 x21) led h) (hA : AOK A a 40) (he : a.envs = [envLaw a.L fa cd])
    (C : Cur led c dc (.bytes (ba want) tw) want p) (K : Snk led g gd gb parts) (H : Ag want parts st p sh) (hwx : ∀ x ∈ want, x < 256) (hwl : want.length ≤ 840)
    (k : ∀ ρ led h tk, St (W0 w) a LX ρ led h → Q (.ret (.bool true)) ⟨h, G, D, tk, O⟩) :
    wpP (W0 w).M A (execs (lawBody.drop 16) (envLaw a.L fa cd)) Q E ⟨h, G, D, tk, O⟩ := by
  have N := nlaw (a := a) (fa := fa) (cd := cd)
  have h1 := H.le
  have h2 := H.inn
  have h3 := H.len
  show wpP _ _ (execs (_ :: _) _) _ _ _
  refine execs_consP (SetE N S .bool v_whole fun v h tk hv S => ?_)
  subst hv
  obtain ⟨es, nn, tt, md, g1, g2, g3, g4⟩ := C.dct
  obtain ⟨ks, kn, kmd, q1, q2⟩ := K.dct
  refine execs_join (I := fun s' => ∃ wb h tk, s' = ⟨h, G, D, tk, O⟩ ∧ wb = decide (p = want.length) ∧ St (W0 w) a LX (LR3 l nl (.int an ta) sv (.bytes (ba want) tw) rv x6 x7 x8 x9 x10 c x12 x13 (.int (st : Nat) ts) g (.int (p : Nat) tp) (.bool sh) x18 x19 x20 (some (.bool wb))) led h)
    (TryL (G := G) (D := D) (O := O) (led' := led) (ρ' := LR3 l nl (.int an ta) sv (.bytes (ba want) tw) rv x6 x7 x8 x9 x10 c x12 x13 (.int (st : Nat) ts) g (.int (p : Nat) tp) (.bool sh) x18 x19 x20 (some (.bool true))) (P := fun C => C = 49 ∧ p < want.length) N hA he (execs_consP (ExprP (MethC S (.loc N v_cursor rfl) C.inst md me_Cursor_done (g4.none (by decide)) .nil (fun vs h tk hv S => ?_) _))) fun ea C' h tk hC r => ?_) ?_
  · subst hv
    exact m_cdone S hA.le C (by omega) h2 (fun e h tk S => execs_nilP ⟨rfl, true, h, tk, rfl, by rw [decide_eq_true e], S⟩) (fun hc e h tk r => ⟨e, 49, h, tk, rfl, rfl, r, rfl, hc⟩)
  · obtain ⟨rfl, hlt⟩ := hC
    refine ClauseE (b := true) k_Corrupt N r (by kernel_rfl) (fun _ h S => ?_) fun e => by cases e
    refine execs_consP (SetE N S .bool v_whole fun v h tk hv S => ?_)
    subst hv
    exact execs_nilP ⟨rfl, false, h, tk, rfl, by rw [decide_eq_false (by omega)], S⟩
  rintro _ ⟨wb, h, tk, rfl, hwb, S⟩
  have ho : Oct led (.bytes (ba want) tw) want := .inl ⟨tw, rfl⟩
  refine execs_consP (IfE S (.cast (c := false) (.neBool (b := wb) (c := ((p : Int) == (want.length : Int))) (.loc N v_whole rfl) (.eq (.locI N v_at rfl) (.lenOct N g_len ((Ev.loc N v_want rfl).mono fun u e => e ▸ ho) (by omega)))) ?_) (fun hb => by cases hb) (fun _ h tk S => execs_nilP ?_))
  · have : ((p : Int) == (want.length : Int)) = wb := by
      rw [hwb, Bool.eq_iff_iff]; simp; omega
    rw [this, bne_self_eq_false]
  refine execs_consP (IfE S (.boolLoc N v_short rfl) (fun hb h tk S => ?_) (fun hb h tk S => ?_))
  · have hlt := H.short hb
    refine execs_consP (ReturnE S (.ltV (.lenOct (l := parts) N g_len ((Ev.meth (T := IsB parts) (.loc N v_again rfl) K.inst kmd me_Sink_done (q2.none (by decide)) .nil (fun S p q => ?_) _).mono fun u e => e.oct) (by omega)) (.sub (.locI N v_at rfl) (.locI N v_start rfl))) fun v h tk hv S => ?_)
    · subst p
      exact m_sdone S hA.le K (by omega) fun t h tk S => q _ h tk ⟨t, rfl⟩ S
    · subst hv
      rw [decide_eq_true (by omega)]
      exact k _ _ h tk S
  · have hok := H.ok hb
    refine execs_nilP (execs_consP (ReturnE S (.eqB (i := parts) (j := cut (some (st : Int)) (some (p : Int)) want) (.meth (.loc N v_again rfl) K.inst kmd me_Sink_done (q2.none (by decide)) .nil (fun S p q => ?_) _) (.cutB ((Ev.loc N v_want rfl).mono fun u e => ⟨tw, e⟩) (by omega) ⟨_, rfl, .locI N v_start rfl⟩ ⟨_, rfl, .locI N v_at rfl⟩) H.lt (fun x hx => ?_)) fun v h tk hv S => ?_))
    · subst p
      exact m_sdone S hA.le K (by omega) fun t h tk S => q _ h tk ⟨t, rfl⟩ S
    · exact hwx x (List.mem_of_mem_drop (List.mem_of_mem_take hx))
    · subst hv
      rw [cut_two _ _ _ (by omega) h2, ← hok, beq_self_eq_true]
      exact k _ _ h tk S

/-- the third loop -/
theorem law_again {l nl s r c₀ : Addr} {an : Nat} {ta tw : Tok} {ns : List Int} {want : List Nat} {nvs : List Value} {m1 : Nat} {x6 x7 x8 x9 x10 x12 x13 : Option Value} {led : List (Addr × Obj)}
    (S : St (W0 w) a LX (LR2 l nl (.int an ta) s (.bytes (ba want) tw) r x6 x7 x8 x9 x10 c₀ x12 x13) led h) (hA : AOK A a 40) (he : a.envs = [envLaw a.L fa cd]) (mn : (nl, lstO nvs m1) ∈ led) (its : IntsAre nvs ns) (nok : NumsOK ns) (hwx : ∀ x ∈ want, x < 256) (hwl : want.length ≤ 840)
    (k : ∀ ρ led h tk, St (W0 w) a LX ρ led h → Q (.ret (.bool true)) ⟨h, G, D, tk, O⟩) :
    wpP (W0 w).M A (execs (lawBody.drop 10) (envLaw a.L fa cd)) Q E ⟨h, G, D, tk, O⟩ := by
  have N := nlaw (a := a) (fa := fa) (cd := cd)
  have ho : ∀ led, Oct led (.bytes (ba want) tw) want := fun _ => .inl ⟨tw, rfl⟩
  show wpP _ _ (execs (_ :: _) _) _ _ _
  refine execs_consP (SetE N S (.modN (j := want.length + 1) (.divN (j := 25) (.locI N v_a rfl) .int (by decide) (by decide)) (.castI (.add (.lenOct N g_len ((Ev.loc N v_want rfl).mono fun u e => e ▸ ho _) (by omega)) .int) (by omega)) (by omega)) v_start fun v h tk ⟨ts, hv⟩ S => ?_)
  subst hv
  have hst : an / 25 % (want.length + 1) ≤ want.length := by have := Nat.mod_lt (an / 25) (show 0 < want.length + 1 by omega); omega
  generalize an / 25 % (want.length + 1) = st at hst S
  refine execs_consP (AssignNameP (CallE N S g_Cursor (by kernel_rfl) (.two (.loc N v_want rfl) (.loc N v_start rfl)) fun vs h tk hv S => ?_))
  obtain ⟨_, _, rfl, rfl, rfl⟩ := hv
  refine newCur2 S hA.le (ho _) (by omega) hst fun c dc led1 h tk S Cc kp => ?_
  refine storeL S v_cursor N.loc N.kind N.names fun h tk S => ?_
  refine execs_consP (AssignNameP (CallE N S g_Sink (by kernel_rfl) .nil fun vs h tk hv S => ?_))
  subst hv
  refine newSnk S hA.le fun g gd gb led2 h tk S Kk kp2 => ?_
  refine storeL S v_again N.loc N.kind N.names fun h tk S => ?_
  refine execs_consP (SetE N S (.locI N v_start rfl) v_at fun v h tk ⟨tp, hv⟩ S => ?_)
  subst hv
  refine execs_consP (SetE N S .bool v_short fun v h tk hv S => ?_)
  subst hv
  have Cc2 := Cc.onLed fun p hp => (kp2 p hp).1
  obtain ⟨es0, nn0, tt0, md0, _⟩ := Cc.dct
  have ncg : dc ≠ gd := (kp2 _ md0).2.2.1
  have mn2 := (kp2 _ (kp _ mn).1).1
  have H0 : Ag want [] st st false := ⟨Nat.le_refl _, hst, by simp, (fun _ => by simp), (fun e => by cases e), (fun x hx => by cases hx)⟩
  refine execs_consP (ForRange (n := 4 + an / 5 % 5) N S hA.hd g_range v_i (EA.castI (.add .int (.modN (j := 5) (.divN (j := 5) (.isI (.locS S N v_a rfl) rfl) .int (by decide) (by decide +kernel)) .int (by decide))) (by omega)) (by omega)
    (fun I i ρ' led' => ∃ (L : List (Addr × Obj)) (p : Nat) (tp : Tok) (parts : List Nat) (sh : Bool) (x6 x7 x8 x9 x10 x12 x13 x18 x19 x20 x21 : Option Value), (∀ q ∈ L, q.1 ≠ I ∧ q ∈ led') ∧ (nl, lstO nvs m1) ∈ L ∧ Cur L c dc (.bytes (ba want) tw) want p ∧ Snk L g gd gb parts ∧ Ag want parts st p sh ∧
      ρ' = LR3 l nl (.int an ta) (.ref s) (.bytes (ba want) tw) (.ref r) x6 x7 x8 x9 x10 c x12 x13 (.int (st : Nat) ts) g (.int (p : Nat) tp) (.bool sh) x18 x19 x20 x21)
    (fun I i ρ led₁ led₂ ⟨L, p, tp, parts, sh, x6, x7, x8, x9, x10, x12, x13, x18, x19, x20, x21, h1, h2⟩ hk => ⟨L, p, tp, parts, sh, x6, x7, x8, x9, x10, x12, x13, x18, x19, x20, x21, fun q hq => ⟨(h1 q hq).1, hk q.1 q.2 (h1 q hq).2 (h1 q hq).1⟩, h2⟩)
    (fun I h S hI => ⟨_, st, tp, [], false, _, _, _, _, _, _, _, none, none, none, none, fun q hq => ⟨hI q hq, hq⟩, mn2, Cc2, Kk, H0, rfl⟩)
    (fun i I oI t2 ρ led₁ h tk hi ⟨L, p, tp, parts, sh, x6, x7, x8, x9, x10, x12, x13, x18, x19, x20, x21, h1, mnL, CL, KL, HL, hρ⟩ mI cI S => ?_)
    (fun I ρ led₁ h tk ⟨L, p, tp, parts, sh, x6, x7, x8, x9, x10, x12, x13, x18, x19, x20, x21, h1, mnL, CL, KL, HL, hρ⟩ S => ?_))
  · subst hρ
    have up1 : ∀ q ∈ L, q ∈ led₁ := fun q hq => (h1 q hq).2
    refine turn3 ⟨_, _, _, _, rfl⟩ S hA (by omega) (up1 _ mnL) its nok (CL.onLed up1) (KL.onLed up1) HL ncg hwx hwl mI cI fun led' h' tk' p' tp' parts' sh' x7 x8 x9 x10 x12 x13 x18 x19 x20 x21 S' mn' C' K' H' kI => ?_
    obtain ⟨L', h1', h2'⟩ := S'.sans (kI _ mI) (.inl cI)
    exact ⟨_, led', h', tk', rfl, S', ⟨L', p', tp', parts', sh', _, x7, x8, x9, x10, x12, x13, x18, x19, x20, x21, h1', h2' _ mn' notIt_list, C'.map h2', K'.map h2', H', rfl⟩, kI⟩
  · subst hρ
    have up1 : ∀ q ∈ L, q ∈ led₁ := fun q hq => (h1 q hq).2
    exact law_end S hA he (CL.onLed up1) (KL.onLed up1) HL hwx hwl k
end
end Mine

end
section
set_option maxRecDepth 100000
open PySem PySem.W PySem.Calls PyProof.Rows
open Sem (wp)
set_option Elab.async false
set_option linter.unusedVariables false
namespace Mine
section
variable {prog : Program} {w : World} {A : Around} {R : Result → Shared → Prop} {s : Shared}
/-- the law's own call -/
theorem topP {name : Str} {params : Arguments} {body : List Stmt} {scope : Scope} {dV kV pm cd doc : Value} {a : Addr} {o : Obj} {args : Args} {binds : List (Str × Value)} {W : Wd} (hW : W.M = model prog w)
    (hroom : A.depth < recursionLimit) (ho : s.heap.get? a = some o) (hdata : o.data = .func { docDef name params body scope pm cd doc with defaults := dV, kwdefaults := kV }) (hlim : s.heap.NoLimit) (hcd : s.heap.CodeRec cd name)
    (hbind : BindsTo s { docDef name params body scope pm cd doc with defaults := dV, kwdefaults := kV } args binds)
    (hcell : ∀ x ∈ scope.names, x.2 ≠ .cell) (hloc : ∀ x ∈ binds, scope.names.lookup x.1 = some .local)
    (h : ∀ h₁, Fr s.heap s.heap.objs.size h₁ (fun x => binds.reverse.lookup x) →
      wpP W.M (A.deeper (envOf name scope s.heap.objs.size a cd)) (execs body (envOf name scope s.heap.objs.size a cd)) (fun f s' => R (.ok (.ret (valOf f))) s') (fun _ _ => False) { s with heap := h₁, toks := s.toks + binds.length })
    (hco : scope.isCoroutine = false) (hgen : scope.isGenerator = false) (hk : scope.kind = .function) :
    codeP W.M A (.call (.ref a) args) R s := by
  refine treeC rfl ?_
  show wpP _ A.in1 (callAny (.ref a) args) _ _ _
  simp only [callAny]
  refine bindP (up (wpAny_load ho ?_))
  rw [hdata]
  obtain ⟨c, oc', vs, tq, hc, hoc, hdc, hq⟩ := hcd
  subst hc
  simp only [callFunction, docDef, hco, hgen]
  refine bindP (m := field (.ref c) 1) (up (wpAny_field hoc hdc hq ?_))
  refine bindP (pureP (bindP (up (hbind _ _ _ _ ?_))))
  refine bindP (up (wpAny_newFunctionEnv hcell hloc (fun h₁ hns hsb => ?_) hk))
  have room : A.in1.depth < recursionLimit := hroom
  refine bindP (up (wpAny_enterFrame (hlim.fresh _ hsb) room ?_))
  refine pureP (And.intro rfl ?_)
  have F : Fr s.heap s.heap.objs.size h₁ (fun x => binds.reverse.lookup x) := ⟨hns, fun b o e => hsb.extBut b o (Nat.ne_of_lt (Heap.lt_size e)) (Heap.get?_push_of_some _ e), Nat.le_refl _⟩
  exact funcP (monoP (h h₁ F) (fun _ _ z => z) fun _ _ z => z.elim)
end
theorem final : PySem.Challenge.rw_nz0362_01.Holds := by
  refine hd ?_
  intro w s₀ s₁ mg mb G Y fa o pm cd doc dV kV ho hd hcd hD hmg hg args vals as hpre hlay hrd hwl hlo
  have KX := kIn_of Y
  have hdV := Dflts.none hD rfl
  have hkV := Dflts.noKw hD
  subst hdV hkV
  refine Ground.open G ?_
  intro T B D TE TW
  wrow_args hpre hlay hrd hwl hlo
  rename_i ns _ _ _ _ _ _ _ l vs _ hL _ _ _ hI _ hlen _
  have hlen' : ns.length ≤ 63 := by have := Int.not_lt.mp hlen; omega
  have post : ∀ {s' : Shared}, (∀ b o, s₁.heap.get? b = some o → s'.heap.get? b = some o) → s'.os = s₁.os → s'.gens = #[] → GoodWG PySem.Challenge.rw_nz0362_01.row.claim (classAt s₀.heap) (ExcName.means s₀.heap) [ofPy (PyData.list (List.map PyData.int ns))] s₁ (.ok (.ret (.bool true))) s' := fun hk hos hg' =>
    GoodW.toG ⟨.inl ⟨_, .bool true, [], rfl, fun _ => rfl, .bool true, postW_of rfl (w_eq_bool (w_res rfl) w_lit) rfl, unshared_nil⟩, hk, hos, hg'⟩
  refine ⟨?_, post (fun _ _ e => e) rfl hg⟩
  obtain ⟨h, Gn, Dr, tk, O⟩ := s₁
  refine callP (topP (W := W0 w) (binds := [("script", .ref l)]) rfl (by decide) ho hd T.nolimit hcd (.of_eq (by kernel_rfl)) (by decide) (fun x hx => by rw [List.mem_singleton.mp hx]; rfl) (fun h₁ F => ?_) rfl rfl rfl)
  have hT : TopRead (W0 w).p (W0 w).loose mg mb h := topRead_of T
  let a : Act := ⟨h, h.objs.size, [], [envLaw h.objs.size fa cd]⟩
  have S : St (W0 w) a LX (some (.ref l) :: List.replicate 21 none) [] h₁ := by
    refine ⟨⟨KX, ⟨mg, mb, hT⟩, by decide, rfl, fun e he => ?_, fun q hq => (nomatch hq), fun q hq => (nomatch hq)⟩, ⟨_, F, fun i x v h1 h2 => ?_⟩, fun p hp => (nomatch hp), fun q hq => (nomatch hq), fun q hq => (nomatch hq)⟩
    · rw [List.mem_singleton.mp he]; rfl
    · cases i with
      | zero =>
        simp at h1 h2
        subst h1 h2
        rfl
      | succ i =>
        rw [List.getElem?_cons_succ, List.getElem?_replicate] at h2
        split at h2 <;> cases h2
  have hA : AOK (callerA.deeper (envLaw h.objs.size fa cd)) a 40 := ⟨rfl, rfl, Nat.le_of_ble_eq_true rfl, Nat.le_of_ble_eq_true rfl⟩
  show wpP (W0 w).M _ (execs lawBody (envLaw a.L fa cd)) _ _ _
  refine law_nums (t0 := []) S hA (fun h' k => ?_) hI hlen' fun nl nvs ns m1 h tk hok hnv S => ?_
  · obtain ⟨o, h1, h2⟩ := hL
    exact ⟨o, k _ _ h1, h2⟩
  refine law_writes S hA hok hnv fun an ta s ds b r rows rvs m2 tw x6 x7 x8 x9 x10 led h tk han C hrl hwl S => ?_
  refine law_reads S hA C hwl hrl fun c x8 x9 x12 x13 led h tk mn S => ?_
  refine law_again S hA rfl mn hnv hok (wantOf_lt C.rok) hwl fun ρ led h tk S => ?_
  obtain ⟨m, F, _⟩ := S.vars
  exact post F.keep rfl hg
end Mine

end
theorem PySem.Challenge.cw_nz0362_01_holds : PySem.Challenge.rw_nz0362_01.Holds :=
  Mine.final
