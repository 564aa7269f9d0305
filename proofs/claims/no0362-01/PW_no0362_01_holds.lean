import PyProof.Rows.All
import Wide.All
import OpenK.AllK
import Wide.FinOn
import Lean
import PySem.Challenge.RW_no0362_01
open PySem PySem.W PyProof.Rows
set_option Elab.async false
set_option maxRecDepth 100000
set_option maxHeartbeats 8000000
set_option linter.unusedVariables false
namespace Mine
local macro_rules | `(tactic| walk_at $s:str) => `(tactic| k_extra $s)
section
/-- the ids of the frames that may hold a bytearray's buffer -/
def heldIds : List String := ["bytearray.__contains__", "bytearray.__mod__", "bytearray.__rmod__", "_struct.pack_into.held", "bytearray.find.held"] ++ Builtin.Bytes.decodersThatHold
/-- a frame that holds no bytearray's buffer -/
def okC : Code → Bool
  | .builtin id _ => !heldIds.contains id
  | _ => true
def fineL (l : List (Code × Pos)) : Bool := l.all fun c => okC c.1
/-- as `wpAny`, but from contexts alone whose frames hold no bytearray's buffer -/
def wpS {α : Type} (M : Model) (A : Around) (t : Sem α) (Q : α → Shared → Prop) (E : Value → Shared → Prop) (s : Shared) : Prop :=
  ∀ Γ p, Γ.In A → okC Γ.code = true → fineL Γ.below = true → Sem.wp M Γ t (fun a _ s' => Q a s') (fun e _ s' => E e s') p s
/-- a tree where no frame holds a bytearray's buffer, another one elsewhere -/
def guarded {α : Type} (t d : Sem α) : Sem α := .stack fun st => if fineL st = true then t else d
theorem fineL_cons (c : Code) (p : Pos) (l : List (Code × Pos)) : fineL ((c, p) :: l) = (okC c && fineL l) := rfl
theorem wpAny_guarded {α : Type} {M : Model} {A : Around} {t d : Sem α} {Q : α → Shared → Prop} {E : Value → Shared → Prop} {s : Shared} (h : wpS M A t Q E s) (hd : wpAny M A d Q E s) : wpAny M A (guarded t d) Q E s := by
  intro Γ p hΓ
  rw [guarded, Sem.wp_stack]
  by_cases hf : fineL ((Γ.code, p) :: Γ.below) = true
  · rw [if_pos hf]
    rw [fineL_cons, Bool.and_eq_true] at hf
    exact h Γ p hΓ hf.1 hf.2
  · rw [if_neg hf]
    exact hd Γ p hΓ
/-- under the claim's caller the guard is one step -/
theorem sched_guarded {prog : Program} {w : World} {t d : Sem Fin} {s : Shared} (hs : s.asleep) {n : Nat} {o : Outcome} {s' : Shared}
    (h : schedN (denote table) prog w n (.single s ⟨guarded t d, .builtin "claim.caller" {}, default, []⟩) = .halted o s') :
    ∃ n', schedN (denote table) prog w n' (.single s ⟨t, .builtin "claim.caller" {}, default, []⟩) = .halted o s' := by
  cases n with
  | zero => cases h
  | succ n =>
    have e : step (denote table) prog w s ⟨guarded t d, .builtin "claim.caller" {}, default, []⟩ = .go s ⟨t, .builtin "claim.caller" {}, default, []⟩ := by
      have q : fineL [(Code.builtin "claim.caller" {}, default)] = true := by decide +kernel
      show Step.go s ⟨if fineL [(Code.builtin "claim.caller" {}, default)] = true then t else d, _, _, _⟩ = _
      rw [if_pos q]
    rcases sstep_single (denote table) prog w s ⟨guarded t d, .builtin "claim.caller" {}, default, []⟩ rfl hs with e2 | e2
    · rw [e] at e2
      refine ⟨n, ?_⟩
      simp only [schedN, e2] at h
      exact h
    · rw [e] at e2; cases e2
theorem holds_guarded {c : ClaimW} {tree d : List Value → Sem Fin} {defs keeps : List Str} {writes : Bool}
    (h : c.HoldsOpenBy (fun vs => ⟨guarded (tree vs) (d vs), .builtin "claim.caller" {}, default, []⟩) defs keeps writes) : c.HoldsOpenBy (fun vs => ⟨tree vs, .builtin "claim.caller" {}, default, []⟩) defs keeps writes := by
  obtain ⟨h1, h2, h3⟩ := h
  refine ⟨h1, h2, fun w => ⟨(h3 w).1, fun s hs => ?_⟩⟩
  obtain ⟨s₀, f1, f2, s₁, T, p1, p2, p3, cf⟩ := (h3 w).2 s hs
  refine ⟨s₀, f1, f2, s₁, T, p1, p2, p3, fun args hpre hlay ord hord => ?_⟩
  obtain ⟨vs, s2, hl, n, o, s', hrun, rest⟩ := cf args hpre hlay ord hord
  have hs' : AfterImport (opening c.prog) w s := hs
  have z := Shared.asleep_of_life ((layAllW_rest _ _ _ hl).2.2.2.trans (T.2.1.trans (fence_lifeW f1))) hs'.life
  obtain ⟨n', e⟩ := sched_guarded z hrun
  exact ⟨vs, s2, hl, n', o, s', e, rest⟩
/-- the head for a walk from contexts whose frames hold no bytearray's buffer -/
theorem open_held {r : OpenRow} {q : Program} {loose : List Str} {Xt : Shared → Bool} {XP : (Str → Option Value) → Heap → Prop} {α : Type} {Yf : Shared → α} {Ya : World → α} {YP : World → Heap → Prop} {d : DefRec} {kwd : List (Str × Expr)} {N : Nat}
    (left : LeftO r.prog q loose Xt Yf Ya N) (hY : ∀ w s, Yf s = Ya w → YP w s.heap) (hYk : ∀ w h h', YP w h → (∀ b o, h.get? b = some o → h'.get? b = some o) → YP w h')
    (hX : ∀ s, Xt s = true → XP (s.heap.nsMap mainGlobals) s.heap) (hXk : ∀ mg h h', XP mg h → (∀ b o, h.get? b = some o → h'.get? b = some o) → XP mg h')
    (hdef : defOf q r.name = some (d, kwd)) (hp : r.prog.theDef r.name = some (d.params, d.body, d.scope)) (hk : kwWritten? d.params.kwonlyargs d.params.kw_defaults = some kwd) (hRf : ∀ s, Xt s = true → RecFacts r.records s.heap) (hwr : (!r.writes || r.records.isEmpty) = true)
    (k1 : r.wellSaid = true) (ok : (chainsOk q && opensWell r.prog && (frees r.toRowW && r.within.isEmpty)) = true) (hb : r.prog.bare) (hw : r.toRowW.promised)
    (call : WalkO q loose XP YP r.toRowW d kwd fun f vs => guarded (PySem.call f vs) (pure (.bool true))) : r.Holds := by
  refine ⟨k1, hw, holds_guarded (d := fun _ => pure (.done (.ret (.bool true)))) (open_anyG (r := r.toRowW) (run := fun f vs => guarded (PySem.call f vs) (pure (.bool true)))
    (tree := fun vs => guarded (callStub r.name vs).cur (pure (.done (.ret (.bool true))))) left hY hYk hX hXk hRf hwr ok hb hw ?_ ?_ ?_)⟩
  · intro vs w s mg f Q E hg hf h Γ p hΓ
    have h := h Γ p hΓ
    have hg' : s.heap.Ns mainNs mg := hg
    rw [guarded, Sem.wp_stack] at h ⊢
    by_cases hfine : fineL ((Γ.code, p) :: Γ.below) = true
    · rw [if_pos hfine] at h ⊢
      show Sem.wp _ Γ (do match ← nsGet mainNs r.name with | some f => do ret (← PySem.call f vs) | none => unsupported "claim.caller:no-such-global") _ _ p s
      rw [Sem.wp_bind', Sem.wp_nsGet _ _ _ _ _ hg', hf, Sem.wp_bind']
      exact Sem.wp_mono _ Γ _ (fun _ _ _ x => x) (fun _ _ _ x => x) p s h
    · rw [if_neg hfine] at h ⊢
      exact h
  · intro w s hg G n hn
    have e : n = r.name := by
      revert hn
      cases r.pinned <;> intro hn
      · cases hn
      · exact List.mem_singleton.mp hn
    rw [e]
    exact pinned_of_view hg G hdef hp hk
  · intro w s₀ s₁ mg mb G Y args vs as hpre hlay L low
    obtain ⟨a, o, pm, cd, doc, dV, kV, h1, h2, h3, h4, h5⟩ := G.fn hdef
    exact ⟨.ref a, h1, call w s₀ s₁ mg mb G Y a o pm cd doc dV kV h2 h3 h4 h5 (defOf_name hdef ▸ h1) L.gens args vs as hpre hlay L.reads L.well (L.low low)⟩
/-- what a def of the text holds, by its place in the row's program -/
noncomputable abbrev argsOf : Option Stmt → Option Arguments
  | some (.FunctionDef _ a ..) => some a
  | _ => none
noncomputable abbrev stsOf : Option Stmt → Option (List Stmt)
  | some (.FunctionDef _ _ b ..) => some b
  | _ => none
noncomputable abbrev scopeOf : Option Stmt → Option Scope
  | some (.FunctionDef _ _ _ _ _ _ s ..) => some s
  | _ => none
noncomputable abbrev bodyOf : Option Stmt → List Stmt
  | some (.ClassDef _ _ _ b ..) => b
  | _ => []
noncomputable abbrev stAt (i : Nat) : Option Stmt := PySem.Challenge.pw_no0362_01.main.body[i]?
noncomputable abbrev mAt (i j : Nat) : Option Stmt := (bodyOf (stAt i))[j]?
noncomputable abbrev key {α : Type} {o : Option α} {x : α} (_ : o = some x) : α := x
/-- a thing that is read off a type -/
structure Lit {α : Type} (x : α) : Prop where
  mk ::
noncomputable abbrev lawScope : Option Scope := scopeOf (stAt 29)
noncomputable abbrev nameAt (i : Nat) : Option (Str × NameKind) := lawScope.bind fun s => s.names[i]?
noncomputable abbrev moreAt (i : Nat) : Option (Str × Const) := lawScope.bind fun s => s.more[i]?
/-- the objects that stand behind the top, written out -/
noncomputable abbrev kept0 : Params → Frag := fun P => (
  (nat_lit 2, { cls := PySem.Value.none, dict := (none : Option Nat), data := PySem.Data.dict #[{ hash := PySem.PyData.keyHash P (PySem.Str.ofString "type.__subclasses__.Exception.0"), key := PySem.Value.str (PySem.Str.ofString "type.__subclasses__.Exception.0") (232 : Nat), val := PySem.Value.int 46 (0 : Nat) }, { hash := PySem.PyData.keyHash P (PySem.Str.ofString "type.__subclasses__.Exception.n"), key := PySem.Value.str (PySem.Str.ofString "type.__subclasses__.Exception.n") (233 : Nat), val := PySem.Value.int 1 (0 : Nat) }] (2 : Nat) }) ::
  (nat_lit 3, { cls := PySem.Value.type "dict", dict := (none : Option Nat), data := PySem.Data.dict (List.toArray ({ hash := PySem.PyData.keyHash P (PySem.Str.ofString "__name__"), key := PySem.Value.str (PySem.Str.ofString "__name__") (165 : Nat), val := PySem.Value.str (PySem.Str.ofString "law_no0362_01") (453 : Nat) } :: { hash := PySem.PyData.keyHash P (PySem.Str.ofString "__doc__"), key := PySem.Value.str (PySem.Str.ofString "__doc__") (166 : Nat), val := PySem.Value.none } :: { hash := PySem.PyData.keyHash P (PySem.Str.ofString "__package__"), key := PySem.Value.str (PySem.Str.ofString "__package__") (167 : Nat), val := PySem.Value.none } :: { hash := PySem.PyData.keyHash P (PySem.Str.ofString "__loader__"), key := PySem.Value.str (PySem.Str.ofString "__loader__") (168 : Nat), val := PySem.Value.builtin "__main__.__loader__#opaque" } :: { hash := PySem.PyData.keyHash P (PySem.Str.ofString "__spec__"), key := PySem.Value.str (PySem.Str.ofString "__spec__") (169 : Nat), val := PySem.Value.none } :: { hash := PySem.PyData.keyHash P (PySem.Str.ofString "__annotations__"), key := PySem.Value.str (PySem.Str.ofString "__annotations__") (170 : Nat), val := PySem.Value.ref (6 : Nat) } :: { hash := PySem.PyData.keyHash P (PySem.Str.ofString "__builtins__"), key := PySem.Value.str (PySem.Str.ofString "__builtins__") (171 : Nat), val := PySem.Value.ref (4 : Nat) } :: { hash := PySem.PyData.keyHash P (PySem.Str.ofString "__file__"), key := PySem.Value.str (PySem.Str.ofString "__file__") (173 : Nat), val := PySem.Value.str (PySem.Str.ofString "/claim/cut.py") (172 : Nat) } :: { hash := PySem.PyData.keyHash P (PySem.Str.ofString "__cached__"), key := PySem.Value.str (PySem.Str.ofString "__cached__") (174 : Nat), val := PySem.Value.none } :: { hash := PySem.PyData.keyHash P (PySem.Str.ofString "_wall"), key := PySem.Value.str (PySem.Str.ofString "_wall") (193 : Nat), val := PySem.Value.ref (21 : Nat) } :: { hash := PySem.PyData.keyHash P (PySem.Str.ofString "PostError"), key := PySem.Value.str (PySem.Str.ofString "PostError") (235 : Nat), val := PySem.Value.ref (46 : Nat) } :: { hash := PySem.PyData.keyHash P (PySem.Str.ofString "WordFault"), key := PySem.Value.str (PySem.Str.ofString "WordFault") (251 : Nat), val := PySem.Value.ref (59 : Nat) } :: { hash := PySem.PyData.keyHash P (PySem.Str.ofString "CRLF"), key := PySem.Value.str (PySem.Str.ofString "CRLF") (255 : Nat), val := PySem.Value.bytes #[13, 10] (254 : Nat) } :: { hash := PySem.PyData.keyHash P (PySem.Str.ofString "RETURN"), key := PySem.Value.str (PySem.Str.ofString "RETURN") (257 : Nat), val := PySem.Value.int 13 (256 : Nat) } :: { hash := PySem.PyData.keyHash P (PySem.Str.ofString "LINE_FEED"), key := PySem.Value.str (PySem.Str.ofString "LINE_FEED") (259 : Nat), val := PySem.Value.int 10 (258 : Nat) } :: { hash := PySem.PyData.keyHash P (PySem.Str.ofString "MOST_FIGURES"), key := PySem.Value.str (PySem.Str.ofString "MOST_FIGURES") (261 : Nat), val := PySem.Value.int 20 (260 : Nat) } :: { hash := PySem.PyData.keyHash P (PySem.Str.ofString "Cursor"), key := PySem.Value.str (PySem.Str.ofString "Cursor") (373 : Nat), val := PySem.Value.ref (143 : Nat) } :: { hash := PySem.PyData.keyHash P (PySem.Str.ofString "lower_code"), key := PySem.Value.str (PySem.Str.ofString "lower_code") (380 : Nat), val := PySem.Value.ref (154 : Nat) } :: { hash := PySem.PyData.keyHash P (PySem.Str.ofString "lower"), key := PySem.Value.str (PySem.Str.ofString "lower") (386 : Nat), val := PySem.Value.ref (159 : Nat) } :: { hash := PySem.PyData.keyHash P (PySem.Str.ofString "lower_text"), key := PySem.Value.str (PySem.Str.ofString "lower_text") (392 : Nat), val := PySem.Value.ref (164 : Nat) } :: { hash := PySem.PyData.keyHash P (PySem.Str.ofString "upper_text"), key := PySem.Value.str (PySem.Str.ofString "upper_text") (398 : Nat), val := PySem.Value.ref (169 : Nat) } :: { hash := PySem.PyData.keyHash P (PySem.Str.ofString "same_word"), key := PySem.Value.str (PySem.Str.ofString "same_word") (406 : Nat), val := PySem.Value.ref (176 : Nat) } :: { hash := PySem.PyData.keyHash P (PySem.Str.ofString "ascii_text"), key := PySem.Value.str (PySem.Str.ofString "ascii_text") (412 : Nat), val := PySem.Value.ref (181 : Nat) } :: { hash := PySem.PyData.keyHash P (PySem.Str.ofString "text_octets"), key := PySem.Value.str (PySem.Str.ofString "text_octets") (418 : Nat), val := PySem.Value.ref (186 : Nat) } :: { hash := PySem.PyData.keyHash P (PySem.Str.ofString "line_spans"), key := PySem.Value.str (PySem.Str.ofString "line_spans") (435 : Nat), val := PySem.Value.ref (194 : Nat) } :: { hash := PySem.PyData.keyHash P (PySem.Str.ofString "canonical"), key := PySem.Value.str (PySem.Str.ofString "canonical") (445 : Nat), val := PySem.Value.ref (201 : Nat) } :: { hash := PySem.PyData.keyHash P (PySem.Str.ofString "is_canonical"), key := PySem.Value.str (PySem.Str.ofString "is_canonical") (452 : Nat), val := PySem.Value.ref (208 : Nat) } :: { hash := PySem.PyData.keyHash P (PySem.Str.ofString "_law_pen"), key := PySem.Value.str (PySem.Str.ofString "_law_pen") (460 : Nat), val := PySem.Value.ref (213 : Nat) } :: { hash := PySem.PyData.keyHash P (PySem.Str.ofString "_law_draw"), key := PySem.Value.str (PySem.Str.ofString "_law_draw") (470 : Nat), val := PySem.Value.ref (220 : Nat) } :: { hash := PySem.PyData.keyHash P (PySem.Str.ofString "_law_codes"), key := PySem.Value.str (PySem.Str.ofString "_law_codes") (480 : Nat), val := PySem.Value.ref (221 : Nat) } :: { hash := PySem.PyData.keyHash P (PySem.Str.ofString "_law_octets"), key := PySem.Value.str (PySem.Str.ofString "_law_octets") (486 : Nat), val := PySem.Value.ref (226 : Nat) } :: { hash := PySem.PyData.keyHash P (PySem.Str.ofString "_law_deed"), key := PySem.Value.str (PySem.Str.ofString "_law_deed") (502 : Nat), val := PySem.Value.ref (233 : Nat) } :: { hash := PySem.PyData.keyHash P (PySem.Str.ofString "_law_lines"), key := PySem.Value.str (PySem.Str.ofString "_law_lines") (512 : Nat), val := PySem.Value.ref (240 : Nat) } :: { hash := PySem.PyData.keyHash P (PySem.Str.ofString "_law_plain"), key := PySem.Value.str (PySem.Str.ofString "_law_plain") (519 : Nat), val := PySem.Value.ref (247 : Nat) } :: { hash := PySem.PyData.keyHash P (PySem.Str.ofString "_law_heard"), key := PySem.Value.str (PySem.Str.ofString "_law_heard") (528 : Nat), val := PySem.Value.ref (254 : Nat) } :: { hash := PySem.PyData.keyHash P (PySem.Str.ofString "law"), key := PySem.Value.str (PySem.Str.ofString "law") (534 : Nat), val := PySem.Value.ref (259 : Nat) } :: [])) (36 : Nat) }) ::
  (nat_lit 15, { cls := PySem.Value.type "tuple", dict := (none : Option Nat), data := PySem.Data.seq #[] (0 : Nat) }) ::
  (nat_lit 17, { cls := PySem.Value.type "tuple", dict := (none : Option Nat), data := PySem.Data.seq #[PySem.Value.str (PySem.Str.ofString "k") (190 : Nat)] (0 : Nat) }) ::
  (nat_lit 18, { cls := PySem.Value.type "tuple", dict := (none : Option Nat), data := PySem.Data.seq #[] (0 : Nat) }) ::
  (nat_lit 20, { cls := PySem.Value.type "code", dict := (none : Option Nat), data := PySem.Data.fields (List.toArray (PySem.Value.str (PySem.Str.ofString "_wall") (187 : Nat) :: PySem.Value.str (PySem.Str.ofString "_wall") (188 : Nat) :: PySem.Value.str (PySem.Str.ofString "/claim/cut.py") (189 : Nat) :: PySem.Value.int 1 (0 : Nat) :: PySem.Value.int 1 (0 : Nat) :: PySem.Value.int 0 (0 : Nat) :: PySem.Value.int 0 (0 : Nat) :: PySem.Value.int 3 (0 : Nat) :: PySem.Value.ref (15 : Nat) :: PySem.Value.bool true :: PySem.Value.int 181 (0 : Nat) :: PySem.Value.ref (16 : Nat) :: PySem.Value.none :: PySem.Value.ref (17 : Nat) :: PySem.Value.ref (18 : Nat) :: PySem.Value.ref (19 : Nat) :: PySem.Value.int 191 (0 : Nat) :: PySem.Value.int 1 (0 : Nat) :: PySem.Value.str (PySem.Str.ofString "/claim/cut.py") (192 : Nat) :: [])) }) ::
  (nat_lit 21, { cls := PySem.Value.type "function", dict := (none : Option Nat), data := PySem.Data.func { name := PySem.Str.ofString "_wall", qualname := PySem.Str.ofString "_wall", params := (key (rfl : argsOf (stAt 0) = some _)), body := PySem.FuncBody.stmts (key (rfl : stsOf (stAt 0) = some _)), scope := (key (rfl : scopeOf (stAt 0) = some _)), globals := (3 : Nat), closure := ([] : List (Str × Nat)), defaults := PySem.Value.none, kwdefaults := PySem.Value.none, pyModule := PySem.Value.str (PySem.Str.ofString "__main__") (164 : Nat), annotations := (none : Option Nat), code := PySem.Value.ref (20 : Nat), builtins := (0 : Nat) } }) ::
  (nat_lit 22, { cls := PySem.Value.type "tuple", dict := (none : Option Nat), data := PySem.Data.seq #[PySem.Value.type "Exception"] (0 : Nat) }) ::
  (nat_lit 29, { cls := PySem.Value.type "tuple", dict := (none : Option Nat), data := PySem.Data.seq #[PySem.Value.int (-1) (209 : Nat)] (0 : Nat) }) ::
  (nat_lit 30, { cls := PySem.Value.type "tuple", dict := (none : Option Nat), data := PySem.Data.seq #[] (0 : Nat) }) ::
  (nat_lit 32, { cls := PySem.Value.type "tuple", dict := (none : Option Nat), data := PySem.Data.seq #[PySem.Value.str (PySem.Str.ofString "self") (213 : Nat), PySem.Value.str (PySem.Str.ofString "what") (214 : Nat), PySem.Value.str (PySem.Str.ofString "at") (215 : Nat)] (0 : Nat) }) ::
  (nat_lit 33, { cls := PySem.Value.type "tuple", dict := (none : Option Nat), data := PySem.Data.seq #[] (0 : Nat) }) ::
  (nat_lit 35, { cls := PySem.Value.type "code", dict := (none : Option Nat), data := PySem.Data.fields (List.toArray (PySem.Value.str (PySem.Str.ofString "__init__") (210 : Nat) :: PySem.Value.str (PySem.Str.ofString "PostError.__init__") (211 : Nat) :: PySem.Value.str (PySem.Str.ofString "/claim/cut.py") (212 : Nat) :: PySem.Value.int 7 (0 : Nat) :: PySem.Value.int 3 (0 : Nat) :: PySem.Value.int 0 (0 : Nat) :: PySem.Value.int 0 (0 : Nat) :: PySem.Value.int 3 (0 : Nat) :: PySem.Value.ref (30 : Nat) :: PySem.Value.bool true :: PySem.Value.int 181 (0 : Nat) :: PySem.Value.ref (31 : Nat) :: PySem.Value.none :: PySem.Value.ref (32 : Nat) :: PySem.Value.ref (33 : Nat) :: PySem.Value.ref (34 : Nat) :: PySem.Value.int 216 (0 : Nat) :: PySem.Value.int 7 (0 : Nat) :: PySem.Value.str (PySem.Str.ofString "/claim/cut.py") (217 : Nat) :: [])) }) ::
  (nat_lit 36, { cls := PySem.Value.type "function", dict := (none : Option Nat), data := PySem.Data.func { name := PySem.Str.ofString "__init__", qualname := PySem.Str.ofString "PostError.__init__", params := (key (rfl : argsOf (mAt 2 0) = some _)), body := PySem.FuncBody.stmts (key (rfl : stsOf (mAt 2 0) = some _)), scope := (key (rfl : scopeOf (mAt 2 0) = some _)), globals := (3 : Nat), closure := ([] : List (Str × Nat)), defaults := PySem.Value.ref (29 : Nat), kwdefaults := PySem.Value.none, pyModule := PySem.Value.str (PySem.Str.ofString "postkeep.errors") (194 : Nat), annotations := (none : Option Nat), code := PySem.Value.ref (35 : Nat), builtins := (0 : Nat) } }) ::
  (nat_lit 37, { cls := PySem.Value.type "tuple", dict := (none : Option Nat), data := PySem.Data.seq #[] (0 : Nat) }) ::
  (nat_lit 39, { cls := PySem.Value.type "tuple", dict := (none : Option Nat), data := PySem.Data.seq #[PySem.Value.str (PySem.Str.ofString "self") (222 : Nat)] (0 : Nat) }) ::
  (nat_lit 40, { cls := PySem.Value.type "tuple", dict := (none : Option Nat), data := PySem.Data.seq #[] (0 : Nat) }) ::
  (nat_lit 42, { cls := PySem.Value.type "code", dict := (none : Option Nat), data := PySem.Data.fields (List.toArray (PySem.Value.str (PySem.Str.ofString "told") (219 : Nat) :: PySem.Value.str (PySem.Str.ofString "PostError.told") (220 : Nat) :: PySem.Value.str (PySem.Str.ofString "/claim/cut.py") (221 : Nat) :: PySem.Value.int 12 (0 : Nat) :: PySem.Value.int 1 (0 : Nat) :: PySem.Value.int 0 (0 : Nat) :: PySem.Value.int 0 (0 : Nat) :: PySem.Value.int 3 (0 : Nat) :: PySem.Value.ref (37 : Nat) :: PySem.Value.bool true :: PySem.Value.int 181 (0 : Nat) :: PySem.Value.ref (38 : Nat) :: PySem.Value.none :: PySem.Value.ref (39 : Nat) :: PySem.Value.ref (40 : Nat) :: PySem.Value.ref (41 : Nat) :: PySem.Value.int 223 (0 : Nat) :: PySem.Value.int 12 (0 : Nat) :: PySem.Value.str (PySem.Str.ofString "/claim/cut.py") (224 : Nat) :: [])) }) ::
  (nat_lit 43, { cls := PySem.Value.type "function", dict := (none : Option Nat), data := PySem.Data.func { name := PySem.Str.ofString "told", qualname := PySem.Str.ofString "PostError.told", params := (key (rfl : argsOf (mAt 2 1) = some _)), body := PySem.FuncBody.stmts (key (rfl : stsOf (mAt 2 1) = some _)), scope := (key (rfl : scopeOf (mAt 2 1) = some _)), globals := (3 : Nat), closure := ([] : List (Str × Nat)), defaults := PySem.Value.none, kwdefaults := PySem.Value.none, pyModule := PySem.Value.str (PySem.Str.ofString "postkeep.errors") (194 : Nat), annotations := (none : Option Nat), code := PySem.Value.ref (42 : Nat), builtins := (0 : Nat) } }) ::
  (nat_lit 44, { cls := PySem.Value.type "tuple", dict := (none : Option Nat), data := PySem.Data.seq #[PySem.Value.str (PySem.Str.ofString "at") (226 : Nat), PySem.Value.str (PySem.Str.ofString "what") (227 : Nat)] (0 : Nat) }) ::
  (nat_lit 45, { cls := PySem.Value.type "dict", dict := (none : Option Nat), data := PySem.Data.dict #[{ hash := PySem.PyData.keyHash P (PySem.Str.ofString "__module__"), key := PySem.Value.str (PySem.Str.ofString "__module__") (203 : Nat), val := PySem.Value.str (PySem.Str.ofString "postkeep.errors") (194 : Nat) }, { hash := PySem.PyData.keyHash P (PySem.Str.ofString "__firstlineno__"), key := PySem.Value.str (PySem.Str.ofString "__firstlineno__") (207 : Nat), val := PySem.Value.int 5 (206 : Nat) }, { hash := PySem.PyData.keyHash P (PySem.Str.ofString "__init__"), key := PySem.Value.str (PySem.Str.ofString "__init__") (218 : Nat), val := PySem.Value.ref (36 : Nat) }, { hash := PySem.PyData.keyHash P (PySem.Str.ofString "told"), key := PySem.Value.str (PySem.Str.ofString "told") (225 : Nat), val := PySem.Value.ref (43 : Nat) }, { hash := PySem.PyData.keyHash P (PySem.Str.ofString "__static_attributes__"), key := PySem.Value.str (PySem.Str.ofString "__static_attributes__") (228 : Nat), val := PySem.Value.ref (44 : Nat) }, { hash := PySem.PyData.keyHash P (PySem.Str.ofString "__weakref__"), key := PySem.Value.str (PySem.Str.ofString "__weakref__") (230 : Nat), val := PySem.Value.ref (47 : Nat) }, { hash := PySem.PyData.keyHash P (PySem.Str.ofString "__doc__"), key := PySem.Value.str (PySem.Str.ofString "__doc__") (231 : Nat), val := PySem.Value.none }] (3 : Nat) }) ::
  (nat_lit 46, { cls := PySem.Value.type "type", dict := (none : Option Nat), data := PySem.Data.cls { name := PySem.Str.ofString "PostError", bases := [PySem.Value.type "Exception"], mro := [PySem.Value.ref (46 : Nat), PySem.Value.type "Exception", PySem.Value.type "BaseException", PySem.Value.type "object"], ns := (45 : Nat), qualname := PySem.Str.ofString "PostError", subclasses := [PySem.Value.ref (59 : Nat)] }, slots := #[some (PySem.Value.ref (22 : Nat)), none, some (PySem.Value.str (PySem.Str.ofString "PostError") (196 : Nat)), some (PySem.Value.str (PySem.Str.ofString "PostError") (204 : Nat)), some (PySem.Value.builtin "Exception.__new__"), some (PySem.Value.bool true)] }) ::
  (nat_lit 47, { cls := PySem.Value.type "getset_descriptor", dict := (none : Option Nat), data := PySem.Data.fields #[PySem.Value.str (PySem.Str.ofString "__weakref__") (229 : Nat), PySem.Value.ref (46 : Nat), PySem.Value.builtin "ExceptionGroup.__weakref__", PySem.Value.none] }) ::
  (nat_lit 50, { cls := PySem.Value.type "tuple", dict := (none : Option Nat), data := PySem.Data.seq #[PySem.Value.ref (46 : Nat)] (0 : Nat) }) ::
  (nat_lit 57, { cls := PySem.Value.type "tuple", dict := (none : Option Nat), data := PySem.Data.seq #[] (0 : Nat) }) ::
  (nat_lit 58, { cls := PySem.Value.type "dict", dict := (none : Option Nat), data := PySem.Data.dict #[{ hash := PySem.PyData.keyHash P (PySem.Str.ofString "__module__"), key := PySem.Value.str (PySem.Str.ofString "__module__") (243 : Nat), val := PySem.Value.str (PySem.Str.ofString "postkeep.errors") (194 : Nat) }, { hash := PySem.PyData.keyHash P (PySem.Str.ofString "__firstlineno__"), key := PySem.Value.str (PySem.Str.ofString "__firstlineno__") (247 : Nat), val := PySem.Value.int 14 (246 : Nat) }, { hash := PySem.PyData.keyHash P (PySem.Str.ofString "__static_attributes__"), key := PySem.Value.str (PySem.Str.ofString "__static_attributes__") (248 : Nat), val := PySem.Value.ref (57 : Nat) }, { hash := PySem.PyData.keyHash P (PySem.Str.ofString "__doc__"), key := PySem.Value.str (PySem.Str.ofString "__doc__") (249 : Nat), val := PySem.Value.none }] (2 : Nat) }) ::
  (nat_lit 59, { cls := PySem.Value.type "type", dict := (none : Option Nat), data := PySem.Data.cls { name := PySem.Str.ofString "WordFault", bases := [PySem.Value.ref (46 : Nat)], mro := [PySem.Value.ref (59 : Nat), PySem.Value.ref (46 : Nat), PySem.Value.type "Exception", PySem.Value.type "BaseException", PySem.Value.type "object"], ns := (58 : Nat), qualname := PySem.Str.ofString "WordFault" }, slots := #[some (PySem.Value.ref (50 : Nat)), none, some (PySem.Value.str (PySem.Str.ofString "WordFault") (236 : Nat)), some (PySem.Value.str (PySem.Str.ofString "WordFault") (244 : Nat)), some (PySem.Value.builtin "Exception.__new__"), some (PySem.Value.bool true)] }) ::
  (nat_lit 69, { cls := PySem.Value.type "tuple", dict := (none : Option Nat), data := PySem.Data.seq #[PySem.Value.int 0 (274 : Nat), PySem.Value.int (-1) (276 : Nat)] (0 : Nat) }) ::
  (nat_lit 70, { cls := PySem.Value.type "tuple", dict := (none : Option Nat), data := PySem.Data.seq #[] (0 : Nat) }) ::
  (nat_lit 72, { cls := PySem.Value.type "tuple", dict := (none : Option Nat), data := PySem.Data.seq #[PySem.Value.str (PySem.Str.ofString "self") (280 : Nat), PySem.Value.str (PySem.Str.ofString "data") (281 : Nat), PySem.Value.str (PySem.Str.ofString "at") (282 : Nat), PySem.Value.str (PySem.Str.ofString "end") (283 : Nat)] (0 : Nat) }) ::
  (nat_lit 73, { cls := PySem.Value.type "tuple", dict := (none : Option Nat), data := PySem.Data.seq #[] (0 : Nat) }) ::
  (nat_lit 75, { cls := PySem.Value.type "code", dict := (none : Option Nat), data := PySem.Data.fields (List.toArray (PySem.Value.str (PySem.Str.ofString "__init__") (277 : Nat) :: PySem.Value.str (PySem.Str.ofString "Cursor.__init__") (278 : Nat) :: PySem.Value.str (PySem.Str.ofString "/claim/cut.py") (279 : Nat) :: PySem.Value.int 23 (0 : Nat) :: PySem.Value.int 4 (0 : Nat) :: PySem.Value.int 0 (0 : Nat) :: PySem.Value.int 0 (0 : Nat) :: PySem.Value.int 3 (0 : Nat) :: PySem.Value.ref (70 : Nat) :: PySem.Value.bool true :: PySem.Value.int 181 (0 : Nat) :: PySem.Value.ref (71 : Nat) :: PySem.Value.none :: PySem.Value.ref (72 : Nat) :: PySem.Value.ref (73 : Nat) :: PySem.Value.ref (74 : Nat) :: PySem.Value.int 284 (0 : Nat) :: PySem.Value.int 23 (0 : Nat) :: PySem.Value.str (PySem.Str.ofString "/claim/cut.py") (285 : Nat) :: [])) }) ::
  (nat_lit 76, { cls := PySem.Value.type "function", dict := (none : Option Nat), data := PySem.Data.func { name := PySem.Str.ofString "__init__", qualname := PySem.Str.ofString "Cursor.__init__", params := (key (rfl : argsOf (mAt 9 0) = some _)), body := PySem.FuncBody.stmts (key (rfl : stsOf (mAt 9 0) = some _)), scope := (key (rfl : scopeOf (mAt 9 0) = some _)), globals := (3 : Nat), closure := ([] : List (Str × Nat)), defaults := PySem.Value.ref (69 : Nat), kwdefaults := PySem.Value.none, pyModule := PySem.Value.str (PySem.Str.ofString "postkeep.octets") (252 : Nat), annotations := (none : Option Nat), code := PySem.Value.ref (75 : Nat), builtins := (0 : Nat) } }) ::
  (nat_lit 77, { cls := PySem.Value.type "tuple", dict := (none : Option Nat), data := PySem.Data.seq #[] (0 : Nat) }) ::
  (nat_lit 79, { cls := PySem.Value.type "tuple", dict := (none : Option Nat), data := PySem.Data.seq #[PySem.Value.str (PySem.Str.ofString "self") (290 : Nat)] (0 : Nat) }) ::
  (nat_lit 80, { cls := PySem.Value.type "tuple", dict := (none : Option Nat), data := PySem.Data.seq #[] (0 : Nat) }) ::
  (nat_lit 82, { cls := PySem.Value.type "code", dict := (none : Option Nat), data := PySem.Data.fields (List.toArray (PySem.Value.str (PySem.Str.ofString "is_done") (287 : Nat) :: PySem.Value.str (PySem.Str.ofString "Cursor.is_done") (288 : Nat) :: PySem.Value.str (PySem.Str.ofString "/claim/cut.py") (289 : Nat) :: PySem.Value.int 28 (0 : Nat) :: PySem.Value.int 1 (0 : Nat) :: PySem.Value.int 0 (0 : Nat) :: PySem.Value.int 0 (0 : Nat) :: PySem.Value.int 3 (0 : Nat) :: PySem.Value.ref (77 : Nat) :: PySem.Value.bool true :: PySem.Value.int 181 (0 : Nat) :: PySem.Value.ref (78 : Nat) :: PySem.Value.none :: PySem.Value.ref (79 : Nat) :: PySem.Value.ref (80 : Nat) :: PySem.Value.ref (81 : Nat) :: PySem.Value.int 291 (0 : Nat) :: PySem.Value.int 28 (0 : Nat) :: PySem.Value.str (PySem.Str.ofString "/claim/cut.py") (292 : Nat) :: [])) }) ::
  (nat_lit 83, { cls := PySem.Value.type "function", dict := (none : Option Nat), data := PySem.Data.func { name := PySem.Str.ofString "is_done", qualname := PySem.Str.ofString "Cursor.is_done", params := (key (rfl : argsOf (mAt 9 1) = some _)), body := PySem.FuncBody.stmts (key (rfl : stsOf (mAt 9 1) = some _)), scope := (key (rfl : scopeOf (mAt 9 1) = some _)), globals := (3 : Nat), closure := ([] : List (Str × Nat)), defaults := PySem.Value.none, kwdefaults := PySem.Value.none, pyModule := PySem.Value.str (PySem.Str.ofString "postkeep.octets") (252 : Nat), annotations := (none : Option Nat), code := PySem.Value.ref (82 : Nat), builtins := (0 : Nat) } }) ::
  (nat_lit 84, { cls := PySem.Value.type "tuple", dict := (none : Option Nat), data := PySem.Data.seq #[PySem.Value.int 0 (294 : Nat)] (0 : Nat) }) ::
  (nat_lit 85, { cls := PySem.Value.type "tuple", dict := (none : Option Nat), data := PySem.Data.seq #[] (0 : Nat) }) ::
  (nat_lit 87, { cls := PySem.Value.type "tuple", dict := (none : Option Nat), data := PySem.Data.seq #[PySem.Value.str (PySem.Str.ofString "self") (298 : Nat), PySem.Value.str (PySem.Str.ofString "ahead") (299 : Nat), PySem.Value.str (PySem.Str.ofString "place") (300 : Nat)] (0 : Nat) }) ::
  (nat_lit 88, { cls := PySem.Value.type "tuple", dict := (none : Option Nat), data := PySem.Data.seq #[] (0 : Nat) }) ::
  (nat_lit 90, { cls := PySem.Value.type "code", dict := (none : Option Nat), data := PySem.Data.fields (List.toArray (PySem.Value.str (PySem.Str.ofString "peek") (295 : Nat) :: PySem.Value.str (PySem.Str.ofString "Cursor.peek") (296 : Nat) :: PySem.Value.str (PySem.Str.ofString "/claim/cut.py") (297 : Nat) :: PySem.Value.int 31 (0 : Nat) :: PySem.Value.int 2 (0 : Nat) :: PySem.Value.int 0 (0 : Nat) :: PySem.Value.int 0 (0 : Nat) :: PySem.Value.int 3 (0 : Nat) :: PySem.Value.ref (85 : Nat) :: PySem.Value.bool true :: PySem.Value.int 181 (0 : Nat) :: PySem.Value.ref (86 : Nat) :: PySem.Value.none :: PySem.Value.ref (87 : Nat) :: PySem.Value.ref (88 : Nat) :: PySem.Value.ref (89 : Nat) :: PySem.Value.int 301 (0 : Nat) :: PySem.Value.int 31 (0 : Nat) :: PySem.Value.str (PySem.Str.ofString "/claim/cut.py") (302 : Nat) :: [])) }) ::
  (nat_lit 91, { cls := PySem.Value.type "function", dict := (none : Option Nat), data := PySem.Data.func { name := PySem.Str.ofString "peek", qualname := PySem.Str.ofString "Cursor.peek", params := (key (rfl : argsOf (mAt 9 2) = some _)), body := PySem.FuncBody.stmts (key (rfl : stsOf (mAt 9 2) = some _)), scope := (key (rfl : scopeOf (mAt 9 2) = some _)), globals := (3 : Nat), closure := ([] : List (Str × Nat)), defaults := PySem.Value.ref (84 : Nat), kwdefaults := PySem.Value.none, pyModule := PySem.Value.str (PySem.Str.ofString "postkeep.octets") (252 : Nat), annotations := (none : Option Nat), code := PySem.Value.ref (90 : Nat), builtins := (0 : Nat) } }) ::
  (nat_lit 92, { cls := PySem.Value.type "tuple", dict := (none : Option Nat), data := PySem.Data.seq #[] (0 : Nat) }) ::
  (nat_lit 94, { cls := PySem.Value.type "tuple", dict := (none : Option Nat), data := PySem.Data.seq #[PySem.Value.str (PySem.Str.ofString "self") (307 : Nat), PySem.Value.str (PySem.Str.ofString "code") (308 : Nat)] (0 : Nat) }) ::
  (nat_lit 95, { cls := PySem.Value.type "tuple", dict := (none : Option Nat), data := PySem.Data.seq #[] (0 : Nat) }) ::
  (nat_lit 97, { cls := PySem.Value.type "code", dict := (none : Option Nat), data := PySem.Data.fields (List.toArray (PySem.Value.str (PySem.Str.ofString "take") (304 : Nat) :: PySem.Value.str (PySem.Str.ofString "Cursor.take") (305 : Nat) :: PySem.Value.str (PySem.Str.ofString "/claim/cut.py") (306 : Nat) :: PySem.Value.int 35 (0 : Nat) :: PySem.Value.int 1 (0 : Nat) :: PySem.Value.int 0 (0 : Nat) :: PySem.Value.int 0 (0 : Nat) :: PySem.Value.int 3 (0 : Nat) :: PySem.Value.ref (92 : Nat) :: PySem.Value.bool true :: PySem.Value.int 181 (0 : Nat) :: PySem.Value.ref (93 : Nat) :: PySem.Value.none :: PySem.Value.ref (94 : Nat) :: PySem.Value.ref (95 : Nat) :: PySem.Value.ref (96 : Nat) :: PySem.Value.int 309 (0 : Nat) :: PySem.Value.int 35 (0 : Nat) :: PySem.Value.str (PySem.Str.ofString "/claim/cut.py") (310 : Nat) :: [])) }) ::
  (nat_lit 98, { cls := PySem.Value.type "function", dict := (none : Option Nat), data := PySem.Data.func { name := PySem.Str.ofString "take", qualname := PySem.Str.ofString "Cursor.take", params := (key (rfl : argsOf (mAt 9 3) = some _)), body := PySem.FuncBody.stmts (key (rfl : stsOf (mAt 9 3) = some _)), scope := (key (rfl : scopeOf (mAt 9 3) = some _)), globals := (3 : Nat), closure := ([] : List (Str × Nat)), defaults := PySem.Value.none, kwdefaults := PySem.Value.none, pyModule := PySem.Value.str (PySem.Str.ofString "postkeep.octets") (252 : Nat), annotations := (none : Option Nat), code := PySem.Value.ref (97 : Nat), builtins := (0 : Nat) } }) ::
  (nat_lit 99, { cls := PySem.Value.type "tuple", dict := (none : Option Nat), data := PySem.Data.seq #[] (0 : Nat) }) ::
  (nat_lit 101, { cls := PySem.Value.type "tuple", dict := (none : Option Nat), data := PySem.Data.seq #[PySem.Value.str (PySem.Str.ofString "self") (315 : Nat), PySem.Value.str (PySem.Str.ofString "word") (316 : Nat)] (0 : Nat) }) ::
  (nat_lit 102, { cls := PySem.Value.type "tuple", dict := (none : Option Nat), data := PySem.Data.seq #[] (0 : Nat) }) ::
  (nat_lit 104, { cls := PySem.Value.type "code", dict := (none : Option Nat), data := PySem.Data.fields (List.toArray (PySem.Value.str (PySem.Str.ofString "starts") (312 : Nat) :: PySem.Value.str (PySem.Str.ofString "Cursor.starts") (313 : Nat) :: PySem.Value.str (PySem.Str.ofString "/claim/cut.py") (314 : Nat) :: PySem.Value.int 41 (0 : Nat) :: PySem.Value.int 2 (0 : Nat) :: PySem.Value.int 0 (0 : Nat) :: PySem.Value.int 0 (0 : Nat) :: PySem.Value.int 3 (0 : Nat) :: PySem.Value.ref (99 : Nat) :: PySem.Value.bool true :: PySem.Value.int 181 (0 : Nat) :: PySem.Value.ref (100 : Nat) :: PySem.Value.none :: PySem.Value.ref (101 : Nat) :: PySem.Value.ref (102 : Nat) :: PySem.Value.ref (103 : Nat) :: PySem.Value.int 317 (0 : Nat) :: PySem.Value.int 41 (0 : Nat) :: PySem.Value.str (PySem.Str.ofString "/claim/cut.py") (318 : Nat) :: [])) }) ::
  (nat_lit 105, { cls := PySem.Value.type "function", dict := (none : Option Nat), data := PySem.Data.func { name := PySem.Str.ofString "starts", qualname := PySem.Str.ofString "Cursor.starts", params := (key (rfl : argsOf (mAt 9 4) = some _)), body := PySem.FuncBody.stmts (key (rfl : stsOf (mAt 9 4) = some _)), scope := (key (rfl : scopeOf (mAt 9 4) = some _)), globals := (3 : Nat), closure := ([] : List (Str × Nat)), defaults := PySem.Value.none, kwdefaults := PySem.Value.none, pyModule := PySem.Value.str (PySem.Str.ofString "postkeep.octets") (252 : Nat), annotations := (none : Option Nat), code := PySem.Value.ref (104 : Nat), builtins := (0 : Nat) } }) ::
  (nat_lit 106, { cls := PySem.Value.type "tuple", dict := (none : Option Nat), data := PySem.Data.seq #[] (0 : Nat) }) ::
  (nat_lit 108, { cls := PySem.Value.type "tuple", dict := (none : Option Nat), data := PySem.Data.seq #[PySem.Value.str (PySem.Str.ofString "self") (323 : Nat), PySem.Value.str (PySem.Str.ofString "word") (324 : Nat)] (0 : Nat) }) ::
  (nat_lit 109, { cls := PySem.Value.type "tuple", dict := (none : Option Nat), data := PySem.Data.seq #[] (0 : Nat) }) ::
  (nat_lit 111, { cls := PySem.Value.type "code", dict := (none : Option Nat), data := PySem.Data.fields (List.toArray (PySem.Value.str (PySem.Str.ofString "skip") (320 : Nat) :: PySem.Value.str (PySem.Str.ofString "Cursor.skip") (321 : Nat) :: PySem.Value.str (PySem.Str.ofString "/claim/cut.py") (322 : Nat) :: PySem.Value.int 44 (0 : Nat) :: PySem.Value.int 2 (0 : Nat) :: PySem.Value.int 0 (0 : Nat) :: PySem.Value.int 0 (0 : Nat) :: PySem.Value.int 3 (0 : Nat) :: PySem.Value.ref (106 : Nat) :: PySem.Value.bool true :: PySem.Value.int 181 (0 : Nat) :: PySem.Value.ref (107 : Nat) :: PySem.Value.none :: PySem.Value.ref (108 : Nat) :: PySem.Value.ref (109 : Nat) :: PySem.Value.ref (110 : Nat) :: PySem.Value.int 325 (0 : Nat) :: PySem.Value.int 44 (0 : Nat) :: PySem.Value.str (PySem.Str.ofString "/claim/cut.py") (326 : Nat) :: [])) }) ::
  (nat_lit 112, { cls := PySem.Value.type "function", dict := (none : Option Nat), data := PySem.Data.func { name := PySem.Str.ofString "skip", qualname := PySem.Str.ofString "Cursor.skip", params := (key (rfl : argsOf (mAt 9 5) = some _)), body := PySem.FuncBody.stmts (key (rfl : stsOf (mAt 9 5) = some _)), scope := (key (rfl : scopeOf (mAt 9 5) = some _)), globals := (3 : Nat), closure := ([] : List (Str × Nat)), defaults := PySem.Value.none, kwdefaults := PySem.Value.none, pyModule := PySem.Value.str (PySem.Str.ofString "postkeep.octets") (252 : Nat), annotations := (none : Option Nat), code := PySem.Value.ref (111 : Nat), builtins := (0 : Nat) } }) ::
  (nat_lit 113, { cls := PySem.Value.type "tuple", dict := (none : Option Nat), data := PySem.Data.seq #[] (0 : Nat) }) ::
  (nat_lit 115, { cls := PySem.Value.type "tuple", dict := (none : Option Nat), data := PySem.Data.seq #[PySem.Value.str (PySem.Str.ofString "self") (331 : Nat), PySem.Value.str (PySem.Str.ofString "codes") (332 : Nat), PySem.Value.str (PySem.Str.ofString "first") (333 : Nat)] (0 : Nat) }) ::
  (nat_lit 116, { cls := PySem.Value.type "tuple", dict := (none : Option Nat), data := PySem.Data.seq #[] (0 : Nat) }) ::
  (nat_lit 118, { cls := PySem.Value.type "code", dict := (none : Option Nat), data := PySem.Data.fields (List.toArray (PySem.Value.str (PySem.Str.ofString "take_while") (328 : Nat) :: PySem.Value.str (PySem.Str.ofString "Cursor.take_while") (329 : Nat) :: PySem.Value.str (PySem.Str.ofString "/claim/cut.py") (330 : Nat) :: PySem.Value.int 50 (0 : Nat) :: PySem.Value.int 2 (0 : Nat) :: PySem.Value.int 0 (0 : Nat) :: PySem.Value.int 0 (0 : Nat) :: PySem.Value.int 3 (0 : Nat) :: PySem.Value.ref (113 : Nat) :: PySem.Value.bool true :: PySem.Value.int 181 (0 : Nat) :: PySem.Value.ref (114 : Nat) :: PySem.Value.none :: PySem.Value.ref (115 : Nat) :: PySem.Value.ref (116 : Nat) :: PySem.Value.ref (117 : Nat) :: PySem.Value.int 334 (0 : Nat) :: PySem.Value.int 50 (0 : Nat) :: PySem.Value.str (PySem.Str.ofString "/claim/cut.py") (335 : Nat) :: [])) }) ::
  (nat_lit 119, { cls := PySem.Value.type "function", dict := (none : Option Nat), data := PySem.Data.func { name := PySem.Str.ofString "take_while", qualname := PySem.Str.ofString "Cursor.take_while", params := (key (rfl : argsOf (mAt 9 6) = some _)), body := PySem.FuncBody.stmts (key (rfl : stsOf (mAt 9 6) = some _)), scope := (key (rfl : scopeOf (mAt 9 6) = some _)), globals := (3 : Nat), closure := ([] : List (Str × Nat)), defaults := PySem.Value.none, kwdefaults := PySem.Value.none, pyModule := PySem.Value.str (PySem.Str.ofString "postkeep.octets") (252 : Nat), annotations := (none : Option Nat), code := PySem.Value.ref (118 : Nat), builtins := (0 : Nat) } }) ::
  (nat_lit 120, { cls := PySem.Value.type "tuple", dict := (none : Option Nat), data := PySem.Data.seq #[] (0 : Nat) }) ::
  (nat_lit 122, { cls := PySem.Value.type "tuple", dict := (none : Option Nat), data := PySem.Data.seq #[PySem.Value.str (PySem.Str.ofString "self") (340 : Nat), PySem.Value.str (PySem.Str.ofString "codes") (341 : Nat), PySem.Value.str (PySem.Str.ofString "first") (342 : Nat)] (0 : Nat) }) ::
  (nat_lit 123, { cls := PySem.Value.type "tuple", dict := (none : Option Nat), data := PySem.Data.seq #[] (0 : Nat) }) ::
  (nat_lit 125, { cls := PySem.Value.type "code", dict := (none : Option Nat), data := PySem.Data.fields (List.toArray (PySem.Value.str (PySem.Str.ofString "take_until") (337 : Nat) :: PySem.Value.str (PySem.Str.ofString "Cursor.take_until") (338 : Nat) :: PySem.Value.str (PySem.Str.ofString "/claim/cut.py") (339 : Nat) :: PySem.Value.int 56 (0 : Nat) :: PySem.Value.int 2 (0 : Nat) :: PySem.Value.int 0 (0 : Nat) :: PySem.Value.int 0 (0 : Nat) :: PySem.Value.int 3 (0 : Nat) :: PySem.Value.ref (120 : Nat) :: PySem.Value.bool true :: PySem.Value.int 181 (0 : Nat) :: PySem.Value.ref (121 : Nat) :: PySem.Value.none :: PySem.Value.ref (122 : Nat) :: PySem.Value.ref (123 : Nat) :: PySem.Value.ref (124 : Nat) :: PySem.Value.int 343 (0 : Nat) :: PySem.Value.int 56 (0 : Nat) :: PySem.Value.str (PySem.Str.ofString "/claim/cut.py") (344 : Nat) :: [])) }) ::
  (nat_lit 126, { cls := PySem.Value.type "function", dict := (none : Option Nat), data := PySem.Data.func { name := PySem.Str.ofString "take_until", qualname := PySem.Str.ofString "Cursor.take_until", params := (key (rfl : argsOf (mAt 9 7) = some _)), body := PySem.FuncBody.stmts (key (rfl : stsOf (mAt 9 7) = some _)), scope := (key (rfl : scopeOf (mAt 9 7) = some _)), globals := (3 : Nat), closure := ([] : List (Str × Nat)), defaults := PySem.Value.none, kwdefaults := PySem.Value.none, pyModule := PySem.Value.str (PySem.Str.ofString "postkeep.octets") (252 : Nat), annotations := (none : Option Nat), code := PySem.Value.ref (125 : Nat), builtins := (0 : Nat) } }) ::
  (nat_lit 127, { cls := PySem.Value.type "tuple", dict := (none : Option Nat), data := PySem.Data.seq #[] (0 : Nat) }) ::
  (nat_lit 129, { cls := PySem.Value.type "tuple", dict := (none : Option Nat), data := PySem.Data.seq #[PySem.Value.str (PySem.Str.ofString "self") (349 : Nat), PySem.Value.str (PySem.Str.ofString "first") (350 : Nat), PySem.Value.str (PySem.Str.ofString "number") (351 : Nat)] (0 : Nat) }) ::
  (nat_lit 130, { cls := PySem.Value.type "tuple", dict := (none : Option Nat), data := PySem.Data.seq #[] (0 : Nat) }) ::
  (nat_lit 132, { cls := PySem.Value.type "code", dict := (none : Option Nat), data := PySem.Data.fields (List.toArray (PySem.Value.str (PySem.Str.ofString "number") (346 : Nat) :: PySem.Value.str (PySem.Str.ofString "Cursor.number") (347 : Nat) :: PySem.Value.str (PySem.Str.ofString "/claim/cut.py") (348 : Nat) :: PySem.Value.int 62 (0 : Nat) :: PySem.Value.int 1 (0 : Nat) :: PySem.Value.int 0 (0 : Nat) :: PySem.Value.int 0 (0 : Nat) :: PySem.Value.int 3 (0 : Nat) :: PySem.Value.ref (127 : Nat) :: PySem.Value.bool true :: PySem.Value.int 181 (0 : Nat) :: PySem.Value.ref (128 : Nat) :: PySem.Value.none :: PySem.Value.ref (129 : Nat) :: PySem.Value.ref (130 : Nat) :: PySem.Value.ref (131 : Nat) :: PySem.Value.int 352 (0 : Nat) :: PySem.Value.int 62 (0 : Nat) :: PySem.Value.str (PySem.Str.ofString "/claim/cut.py") (353 : Nat) :: [])) }) ::
  (nat_lit 133, { cls := PySem.Value.type "function", dict := (none : Option Nat), data := PySem.Data.func { name := PySem.Str.ofString "number", qualname := PySem.Str.ofString "Cursor.number", params := (key (rfl : argsOf (mAt 9 8) = some _)), body := PySem.FuncBody.stmts (key (rfl : stsOf (mAt 9 8) = some _)), scope := (key (rfl : scopeOf (mAt 9 8) = some _)), globals := (3 : Nat), closure := ([] : List (Str × Nat)), defaults := PySem.Value.none, kwdefaults := PySem.Value.none, pyModule := PySem.Value.str (PySem.Str.ofString "postkeep.octets") (252 : Nat), annotations := (none : Option Nat), code := PySem.Value.ref (132 : Nat), builtins := (0 : Nat) } }) ::
  (nat_lit 134, { cls := PySem.Value.type "tuple", dict := (none : Option Nat), data := PySem.Data.seq #[] (0 : Nat) }) ::
  (nat_lit 136, { cls := PySem.Value.type "tuple", dict := (none : Option Nat), data := PySem.Data.seq #[PySem.Value.str (PySem.Str.ofString "self") (358 : Nat), PySem.Value.str (PySem.Str.ofString "word") (359 : Nat)] (0 : Nat) }) ::
  (nat_lit 137, { cls := PySem.Value.type "tuple", dict := (none : Option Nat), data := PySem.Data.seq #[] (0 : Nat) }) ::
  (nat_lit 139, { cls := PySem.Value.type "code", dict := (none : Option Nat), data := PySem.Data.fields (List.toArray (PySem.Value.str (PySem.Str.ofString "find") (355 : Nat) :: PySem.Value.str (PySem.Str.ofString "Cursor.find") (356 : Nat) :: PySem.Value.str (PySem.Str.ofString "/claim/cut.py") (357 : Nat) :: PySem.Value.int 72 (0 : Nat) :: PySem.Value.int 2 (0 : Nat) :: PySem.Value.int 0 (0 : Nat) :: PySem.Value.int 0 (0 : Nat) :: PySem.Value.int 3 (0 : Nat) :: PySem.Value.ref (134 : Nat) :: PySem.Value.bool true :: PySem.Value.int 181 (0 : Nat) :: PySem.Value.ref (135 : Nat) :: PySem.Value.none :: PySem.Value.ref (136 : Nat) :: PySem.Value.ref (137 : Nat) :: PySem.Value.ref (138 : Nat) :: PySem.Value.int 360 (0 : Nat) :: PySem.Value.int 72 (0 : Nat) :: PySem.Value.str (PySem.Str.ofString "/claim/cut.py") (361 : Nat) :: [])) }) ::
  (nat_lit 140, { cls := PySem.Value.type "function", dict := (none : Option Nat), data := PySem.Data.func { name := PySem.Str.ofString "find", qualname := PySem.Str.ofString "Cursor.find", params := (key (rfl : argsOf (mAt 9 9) = some _)), body := PySem.FuncBody.stmts (key (rfl : stsOf (mAt 9 9) = some _)), scope := (key (rfl : scopeOf (mAt 9 9) = some _)), globals := (3 : Nat), closure := ([] : List (Str × Nat)), defaults := PySem.Value.none, kwdefaults := PySem.Value.none, pyModule := PySem.Value.str (PySem.Str.ofString "postkeep.octets") (252 : Nat), annotations := (none : Option Nat), code := PySem.Value.ref (139 : Nat), builtins := (0 : Nat) } }) ::
  (nat_lit 141, { cls := PySem.Value.type "tuple", dict := (none : Option Nat), data := PySem.Data.seq #[PySem.Value.str (PySem.Str.ofString "at") (363 : Nat), PySem.Value.str (PySem.Str.ofString "data") (364 : Nat), PySem.Value.str (PySem.Str.ofString "end") (365 : Nat)] (0 : Nat) }) ::
  (nat_lit 142, { cls := PySem.Value.type "dict", dict := (none : Option Nat), data := PySem.Data.dict (List.toArray ({ hash := PySem.PyData.keyHash P (PySem.Str.ofString "__module__"), key := PySem.Value.str (PySem.Str.ofString "__module__") (269 : Nat), val := PySem.Value.str (PySem.Str.ofString "postkeep.octets") (252 : Nat) } :: { hash := PySem.PyData.keyHash P (PySem.Str.ofString "__firstlineno__"), key := PySem.Value.str (PySem.Str.ofString "__firstlineno__") (273 : Nat), val := PySem.Value.int 21 (272 : Nat) } :: { hash := PySem.PyData.keyHash P (PySem.Str.ofString "__init__"), key := PySem.Value.str (PySem.Str.ofString "__init__") (286 : Nat), val := PySem.Value.ref (76 : Nat) } :: { hash := PySem.PyData.keyHash P (PySem.Str.ofString "is_done"), key := PySem.Value.str (PySem.Str.ofString "is_done") (293 : Nat), val := PySem.Value.ref (83 : Nat) } :: { hash := PySem.PyData.keyHash P (PySem.Str.ofString "peek"), key := PySem.Value.str (PySem.Str.ofString "peek") (303 : Nat), val := PySem.Value.ref (91 : Nat) } :: { hash := PySem.PyData.keyHash P (PySem.Str.ofString "take"), key := PySem.Value.str (PySem.Str.ofString "take") (311 : Nat), val := PySem.Value.ref (98 : Nat) } :: { hash := PySem.PyData.keyHash P (PySem.Str.ofString "starts"), key := PySem.Value.str (PySem.Str.ofString "starts") (319 : Nat), val := PySem.Value.ref (105 : Nat) } :: { hash := PySem.PyData.keyHash P (PySem.Str.ofString "skip"), key := PySem.Value.str (PySem.Str.ofString "skip") (327 : Nat), val := PySem.Value.ref (112 : Nat) } :: { hash := PySem.PyData.keyHash P (PySem.Str.ofString "take_while"), key := PySem.Value.str (PySem.Str.ofString "take_while") (336 : Nat), val := PySem.Value.ref (119 : Nat) } :: { hash := PySem.PyData.keyHash P (PySem.Str.ofString "take_until"), key := PySem.Value.str (PySem.Str.ofString "take_until") (345 : Nat), val := PySem.Value.ref (126 : Nat) } :: { hash := PySem.PyData.keyHash P (PySem.Str.ofString "number"), key := PySem.Value.str (PySem.Str.ofString "number") (354 : Nat), val := PySem.Value.ref (133 : Nat) } :: { hash := PySem.PyData.keyHash P (PySem.Str.ofString "find"), key := PySem.Value.str (PySem.Str.ofString "find") (362 : Nat), val := PySem.Value.ref (140 : Nat) } :: { hash := PySem.PyData.keyHash P (PySem.Str.ofString "__static_attributes__"), key := PySem.Value.str (PySem.Str.ofString "__static_attributes__") (366 : Nat), val := PySem.Value.ref (141 : Nat) } :: { hash := PySem.PyData.keyHash P (PySem.Str.ofString "__dict__"), key := PySem.Value.str (PySem.Str.ofString "__dict__") (368 : Nat), val := PySem.Value.ref (144 : Nat) } :: { hash := PySem.PyData.keyHash P (PySem.Str.ofString "__weakref__"), key := PySem.Value.str (PySem.Str.ofString "__weakref__") (370 : Nat), val := PySem.Value.ref (145 : Nat) } :: { hash := PySem.PyData.keyHash P (PySem.Str.ofString "__doc__"), key := PySem.Value.str (PySem.Str.ofString "__doc__") (371 : Nat), val := PySem.Value.none } :: [])) (4 : Nat) }) ::
  (nat_lit 143, { cls := PySem.Value.type "type", dict := (none : Option Nat), data := PySem.Data.cls { name := PySem.Str.ofString "Cursor", bases := [PySem.Value.type "object"], mro := [PySem.Value.ref (143 : Nat), PySem.Value.type "object"], ns := (142 : Nat), qualname := PySem.Str.ofString "Cursor" }, slots := #[none, none, some (PySem.Value.str (PySem.Str.ofString "Cursor") (262 : Nat)), some (PySem.Value.str (PySem.Str.ofString "Cursor") (270 : Nat)), some (PySem.Value.builtin "object.__new__"), some (PySem.Value.bool true)] }) ::
  (nat_lit 144, { cls := PySem.Value.type "getset_descriptor", dict := (none : Option Nat), data := PySem.Data.fields #[PySem.Value.str (PySem.Str.ofString "__dict__") (367 : Nat), PySem.Value.ref (143 : Nat), PySem.Value.builtin "function.__dict__", PySem.Value.builtin "function.__dict__#set"] }) ::
  (nat_lit 145, { cls := PySem.Value.type "getset_descriptor", dict := (none : Option Nat), data := PySem.Data.fields #[PySem.Value.str (PySem.Str.ofString "__weakref__") (369 : Nat), PySem.Value.ref (143 : Nat), PySem.Value.builtin "ExceptionGroup.__weakref__", PySem.Value.none] }) ::
  (nat_lit 148, { cls := PySem.Value.type "tuple", dict := (none : Option Nat), data := PySem.Data.seq #[] (0 : Nat) }) ::
  (nat_lit 150, { cls := PySem.Value.type "tuple", dict := (none : Option Nat), data := PySem.Data.seq #[PySem.Value.str (PySem.Str.ofString "code") (377 : Nat)] (0 : Nat) }) ::
  (nat_lit 151, { cls := PySem.Value.type "tuple", dict := (none : Option Nat), data := PySem.Data.seq #[] (0 : Nat) }) ::
  (nat_lit 153, { cls := PySem.Value.type "code", dict := (none : Option Nat), data := PySem.Data.fields (List.toArray (PySem.Value.str (PySem.Str.ofString "lower_code") (374 : Nat) :: PySem.Value.str (PySem.Str.ofString "lower_code") (375 : Nat) :: PySem.Value.str (PySem.Str.ofString "/claim/cut.py") (376 : Nat) :: PySem.Value.int 74 (0 : Nat) :: PySem.Value.int 1 (0 : Nat) :: PySem.Value.int 0 (0 : Nat) :: PySem.Value.int 0 (0 : Nat) :: PySem.Value.int 3 (0 : Nat) :: PySem.Value.ref (148 : Nat) :: PySem.Value.bool true :: PySem.Value.int 181 (0 : Nat) :: PySem.Value.ref (149 : Nat) :: PySem.Value.none :: PySem.Value.ref (150 : Nat) :: PySem.Value.ref (151 : Nat) :: PySem.Value.ref (152 : Nat) :: PySem.Value.int 378 (0 : Nat) :: PySem.Value.int 74 (0 : Nat) :: PySem.Value.str (PySem.Str.ofString "/claim/cut.py") (379 : Nat) :: [])) }) ::
  (nat_lit 154, { cls := PySem.Value.type "function", dict := (none : Option Nat), data := PySem.Data.func { name := PySem.Str.ofString "lower_code", qualname := PySem.Str.ofString "lower_code", params := (key (rfl : argsOf (stAt 10) = some _)), body := PySem.FuncBody.stmts (key (rfl : stsOf (stAt 10) = some _)), scope := (key (rfl : scopeOf (stAt 10) = some _)), globals := (3 : Nat), closure := ([] : List (Str × Nat)), defaults := PySem.Value.none, kwdefaults := PySem.Value.none, pyModule := PySem.Value.str (PySem.Str.ofString "postkeep.octets") (252 : Nat), annotations := (none : Option Nat), code := PySem.Value.ref (153 : Nat), builtins := (0 : Nat) } }) ::
  (nat_lit 155, { cls := PySem.Value.type "tuple", dict := (none : Option Nat), data := PySem.Data.seq #[] (0 : Nat) }) ::
  (nat_lit 158, { cls := PySem.Value.type "code", dict := (none : Option Nat), data := PySem.Data.fields (List.toArray (PySem.Value.str (PySem.Str.ofString "lower") (381 : Nat) :: PySem.Value.str (PySem.Str.ofString "lower") (382 : Nat) :: PySem.Value.str (PySem.Str.ofString "/claim/cut.py") (383 : Nat) :: PySem.Value.int 76 (0 : Nat) :: PySem.Value.int 1 (0 : Nat) :: PySem.Value.int 0 (0 : Nat) :: PySem.Value.int 0 (0 : Nat) :: PySem.Value.int 3 (0 : Nat) :: PySem.Value.ref (155 : Nat) :: PySem.Value.bool true :: PySem.Value.int 181 (0 : Nat) :: PySem.Value.ref (156 : Nat) :: PySem.Value.none :: PySem.Value.none :: PySem.Value.none :: PySem.Value.ref (157 : Nat) :: PySem.Value.int 384 (0 : Nat) :: PySem.Value.int 76 (0 : Nat) :: PySem.Value.str (PySem.Str.ofString "/claim/cut.py") (385 : Nat) :: [])) }) ::
  (nat_lit 159, { cls := PySem.Value.type "function", dict := (none : Option Nat), data := PySem.Data.func { name := PySem.Str.ofString "lower", qualname := PySem.Str.ofString "lower", params := (key (rfl : argsOf (stAt 11) = some _)), body := PySem.FuncBody.stmts (key (rfl : stsOf (stAt 11) = some _)), scope := (key (rfl : scopeOf (stAt 11) = some _)), globals := (3 : Nat), closure := ([] : List (Str × Nat)), defaults := PySem.Value.none, kwdefaults := PySem.Value.none, pyModule := PySem.Value.str (PySem.Str.ofString "postkeep.octets") (252 : Nat), annotations := (none : Option Nat), code := PySem.Value.ref (158 : Nat), builtins := (0 : Nat) } }) ::
  (nat_lit 160, { cls := PySem.Value.type "tuple", dict := (none : Option Nat), data := PySem.Data.seq #[] (0 : Nat) }) ::
  (nat_lit 163, { cls := PySem.Value.type "code", dict := (none : Option Nat), data := PySem.Data.fields (List.toArray (PySem.Value.str (PySem.Str.ofString "lower_text") (387 : Nat) :: PySem.Value.str (PySem.Str.ofString "lower_text") (388 : Nat) :: PySem.Value.str (PySem.Str.ofString "/claim/cut.py") (389 : Nat) :: PySem.Value.int 78 (0 : Nat) :: PySem.Value.int 1 (0 : Nat) :: PySem.Value.int 0 (0 : Nat) :: PySem.Value.int 0 (0 : Nat) :: PySem.Value.int 3 (0 : Nat) :: PySem.Value.ref (160 : Nat) :: PySem.Value.bool true :: PySem.Value.int 181 (0 : Nat) :: PySem.Value.ref (161 : Nat) :: PySem.Value.none :: PySem.Value.none :: PySem.Value.none :: PySem.Value.ref (162 : Nat) :: PySem.Value.int 390 (0 : Nat) :: PySem.Value.int 78 (0 : Nat) :: PySem.Value.str (PySem.Str.ofString "/claim/cut.py") (391 : Nat) :: [])) }) ::
  (nat_lit 164, { cls := PySem.Value.type "function", dict := (none : Option Nat), data := PySem.Data.func { name := PySem.Str.ofString "lower_text", qualname := PySem.Str.ofString "lower_text", params := (key (rfl : argsOf (stAt 12) = some _)), body := PySem.FuncBody.stmts (key (rfl : stsOf (stAt 12) = some _)), scope := (key (rfl : scopeOf (stAt 12) = some _)), globals := (3 : Nat), closure := ([] : List (Str × Nat)), defaults := PySem.Value.none, kwdefaults := PySem.Value.none, pyModule := PySem.Value.str (PySem.Str.ofString "postkeep.octets") (252 : Nat), annotations := (none : Option Nat), code := PySem.Value.ref (163 : Nat), builtins := (0 : Nat) } }) ::
  (nat_lit 165, { cls := PySem.Value.type "tuple", dict := (none : Option Nat), data := PySem.Data.seq #[] (0 : Nat) }) ::
  (nat_lit 168, { cls := PySem.Value.type "code", dict := (none : Option Nat), data := PySem.Data.fields (List.toArray (PySem.Value.str (PySem.Str.ofString "upper_text") (393 : Nat) :: PySem.Value.str (PySem.Str.ofString "upper_text") (394 : Nat) :: PySem.Value.str (PySem.Str.ofString "/claim/cut.py") (395 : Nat) :: PySem.Value.int 80 (0 : Nat) :: PySem.Value.int 1 (0 : Nat) :: PySem.Value.int 0 (0 : Nat) :: PySem.Value.int 0 (0 : Nat) :: PySem.Value.int 3 (0 : Nat) :: PySem.Value.ref (165 : Nat) :: PySem.Value.bool true :: PySem.Value.int 181 (0 : Nat) :: PySem.Value.ref (166 : Nat) :: PySem.Value.none :: PySem.Value.none :: PySem.Value.none :: PySem.Value.ref (167 : Nat) :: PySem.Value.int 396 (0 : Nat) :: PySem.Value.int 80 (0 : Nat) :: PySem.Value.str (PySem.Str.ofString "/claim/cut.py") (397 : Nat) :: [])) }) ::
  (nat_lit 169, { cls := PySem.Value.type "function", dict := (none : Option Nat), data := PySem.Data.func { name := PySem.Str.ofString "upper_text", qualname := PySem.Str.ofString "upper_text", params := (key (rfl : argsOf (stAt 13) = some _)), body := PySem.FuncBody.stmts (key (rfl : stsOf (stAt 13) = some _)), scope := (key (rfl : scopeOf (stAt 13) = some _)), globals := (3 : Nat), closure := ([] : List (Str × Nat)), defaults := PySem.Value.none, kwdefaults := PySem.Value.none, pyModule := PySem.Value.str (PySem.Str.ofString "postkeep.octets") (252 : Nat), annotations := (none : Option Nat), code := PySem.Value.ref (168 : Nat), builtins := (0 : Nat) } }) ::
  (nat_lit 170, { cls := PySem.Value.type "tuple", dict := (none : Option Nat), data := PySem.Data.seq #[] (0 : Nat) }) ::
  (nat_lit 172, { cls := PySem.Value.type "tuple", dict := (none : Option Nat), data := PySem.Data.seq #[PySem.Value.str (PySem.Str.ofString "one") (402 : Nat), PySem.Value.str (PySem.Str.ofString "other") (403 : Nat)] (0 : Nat) }) ::
  (nat_lit 173, { cls := PySem.Value.type "tuple", dict := (none : Option Nat), data := PySem.Data.seq #[] (0 : Nat) }) ::
  (nat_lit 175, { cls := PySem.Value.type "code", dict := (none : Option Nat), data := PySem.Data.fields (List.toArray (PySem.Value.str (PySem.Str.ofString "same_word") (399 : Nat) :: PySem.Value.str (PySem.Str.ofString "same_word") (400 : Nat) :: PySem.Value.str (PySem.Str.ofString "/claim/cut.py") (401 : Nat) :: PySem.Value.int 82 (0 : Nat) :: PySem.Value.int 2 (0 : Nat) :: PySem.Value.int 0 (0 : Nat) :: PySem.Value.int 0 (0 : Nat) :: PySem.Value.int 3 (0 : Nat) :: PySem.Value.ref (170 : Nat) :: PySem.Value.bool true :: PySem.Value.int 181 (0 : Nat) :: PySem.Value.ref (171 : Nat) :: PySem.Value.none :: PySem.Value.ref (172 : Nat) :: PySem.Value.ref (173 : Nat) :: PySem.Value.ref (174 : Nat) :: PySem.Value.int 404 (0 : Nat) :: PySem.Value.int 82 (0 : Nat) :: PySem.Value.str (PySem.Str.ofString "/claim/cut.py") (405 : Nat) :: [])) }) ::
  (nat_lit 176, { cls := PySem.Value.type "function", dict := (none : Option Nat), data := PySem.Data.func { name := PySem.Str.ofString "same_word", qualname := PySem.Str.ofString "same_word", params := (key (rfl : argsOf (stAt 14) = some _)), body := PySem.FuncBody.stmts (key (rfl : stsOf (stAt 14) = some _)), scope := (key (rfl : scopeOf (stAt 14) = some _)), globals := (3 : Nat), closure := ([] : List (Str × Nat)), defaults := PySem.Value.none, kwdefaults := PySem.Value.none, pyModule := PySem.Value.str (PySem.Str.ofString "postkeep.octets") (252 : Nat), annotations := (none : Option Nat), code := PySem.Value.ref (175 : Nat), builtins := (0 : Nat) } }) ::
  (nat_lit 177, { cls := PySem.Value.type "tuple", dict := (none : Option Nat), data := PySem.Data.seq #[] (0 : Nat) }) ::
  (nat_lit 180, { cls := PySem.Value.type "code", dict := (none : Option Nat), data := PySem.Data.fields (List.toArray (PySem.Value.str (PySem.Str.ofString "ascii_text") (407 : Nat) :: PySem.Value.str (PySem.Str.ofString "ascii_text") (408 : Nat) :: PySem.Value.str (PySem.Str.ofString "/claim/cut.py") (409 : Nat) :: PySem.Value.int 88 (0 : Nat) :: PySem.Value.int 1 (0 : Nat) :: PySem.Value.int 0 (0 : Nat) :: PySem.Value.int 0 (0 : Nat) :: PySem.Value.int 3 (0 : Nat) :: PySem.Value.ref (177 : Nat) :: PySem.Value.bool true :: PySem.Value.int 181 (0 : Nat) :: PySem.Value.ref (178 : Nat) :: PySem.Value.none :: PySem.Value.none :: PySem.Value.none :: PySem.Value.ref (179 : Nat) :: PySem.Value.int 410 (0 : Nat) :: PySem.Value.int 88 (0 : Nat) :: PySem.Value.str (PySem.Str.ofString "/claim/cut.py") (411 : Nat) :: [])) }) ::
  (nat_lit 181, { cls := PySem.Value.type "function", dict := (none : Option Nat), data := PySem.Data.func { name := PySem.Str.ofString "ascii_text", qualname := PySem.Str.ofString "ascii_text", params := (key (rfl : argsOf (stAt 15) = some _)), body := PySem.FuncBody.stmts (key (rfl : stsOf (stAt 15) = some _)), scope := (key (rfl : scopeOf (stAt 15) = some _)), globals := (3 : Nat), closure := ([] : List (Str × Nat)), defaults := PySem.Value.none, kwdefaults := PySem.Value.none, pyModule := PySem.Value.str (PySem.Str.ofString "postkeep.octets") (252 : Nat), annotations := (none : Option Nat), code := PySem.Value.ref (180 : Nat), builtins := (0 : Nat) } }) ::
  (nat_lit 182, { cls := PySem.Value.type "tuple", dict := (none : Option Nat), data := PySem.Data.seq #[] (0 : Nat) }) ::
  (nat_lit 185, { cls := PySem.Value.type "code", dict := (none : Option Nat), data := PySem.Data.fields (List.toArray (PySem.Value.str (PySem.Str.ofString "text_octets") (413 : Nat) :: PySem.Value.str (PySem.Str.ofString "text_octets") (414 : Nat) :: PySem.Value.str (PySem.Str.ofString "/claim/cut.py") (415 : Nat) :: PySem.Value.int 93 (0 : Nat) :: PySem.Value.int 1 (0 : Nat) :: PySem.Value.int 0 (0 : Nat) :: PySem.Value.int 0 (0 : Nat) :: PySem.Value.int 3 (0 : Nat) :: PySem.Value.ref (182 : Nat) :: PySem.Value.bool true :: PySem.Value.int 181 (0 : Nat) :: PySem.Value.ref (183 : Nat) :: PySem.Value.none :: PySem.Value.none :: PySem.Value.none :: PySem.Value.ref (184 : Nat) :: PySem.Value.int 416 (0 : Nat) :: PySem.Value.int 93 (0 : Nat) :: PySem.Value.str (PySem.Str.ofString "/claim/cut.py") (417 : Nat) :: [])) }) ::
  (nat_lit 186, { cls := PySem.Value.type "function", dict := (none : Option Nat), data := PySem.Data.func { name := PySem.Str.ofString "text_octets", qualname := PySem.Str.ofString "text_octets", params := (key (rfl : argsOf (stAt 16) = some _)), body := PySem.FuncBody.stmts (key (rfl : stsOf (stAt 16) = some _)), scope := (key (rfl : scopeOf (stAt 16) = some _)), globals := (3 : Nat), closure := ([] : List (Str × Nat)), defaults := PySem.Value.none, kwdefaults := PySem.Value.none, pyModule := PySem.Value.str (PySem.Str.ofString "postkeep.octets") (252 : Nat), annotations := (none : Option Nat), code := PySem.Value.ref (185 : Nat), builtins := (0 : Nat) } }) ::
  (nat_lit 187, { cls := PySem.Value.type "tuple", dict := (none : Option Nat), data := PySem.Data.seq #[PySem.Value.int 0 (419 : Nat), PySem.Value.int (-1) (421 : Nat)] (0 : Nat) }) ::
  (nat_lit 188, { cls := PySem.Value.type "tuple", dict := (none : Option Nat), data := PySem.Data.seq #[] (0 : Nat) }) ::
  (nat_lit 190, { cls := PySem.Value.type "tuple", dict := (none : Option Nat), data := PySem.Data.seq #[PySem.Value.str (PySem.Str.ofString "data") (425 : Nat), PySem.Value.str (PySem.Str.ofString "at") (426 : Nat), PySem.Value.str (PySem.Str.ofString "end") (427 : Nat), PySem.Value.str (PySem.Str.ofString "behind") (428 : Nat), PySem.Value.str (PySem.Str.ofString "found") (429 : Nat), PySem.Value.str (PySem.Str.ofString "begin") (430 : Nat), PySem.Value.str (PySem.Str.ofString "feed") (431 : Nat), PySem.Value.str (PySem.Str.ofString "last") (432 : Nat)] (0 : Nat) }) ::
  (nat_lit 191, { cls := PySem.Value.type "tuple", dict := (none : Option Nat), data := PySem.Data.seq #[] (0 : Nat) }) ::
  (nat_lit 193, { cls := PySem.Value.type "code", dict := (none : Option Nat), data := PySem.Data.fields (List.toArray (PySem.Value.str (PySem.Str.ofString "line_spans") (422 : Nat) :: PySem.Value.str (PySem.Str.ofString "line_spans") (423 : Nat) :: PySem.Value.str (PySem.Str.ofString "/claim/cut.py") (424 : Nat) :: PySem.Value.int 98 (0 : Nat) :: PySem.Value.int 3 (0 : Nat) :: PySem.Value.int 0 (0 : Nat) :: PySem.Value.int 0 (0 : Nat) :: PySem.Value.int 3 (0 : Nat) :: PySem.Value.ref (188 : Nat) :: PySem.Value.bool true :: PySem.Value.int 181 (0 : Nat) :: PySem.Value.ref (189 : Nat) :: PySem.Value.none :: PySem.Value.ref (190 : Nat) :: PySem.Value.ref (191 : Nat) :: PySem.Value.ref (192 : Nat) :: PySem.Value.int 433 (0 : Nat) :: PySem.Value.int 98 (0 : Nat) :: PySem.Value.str (PySem.Str.ofString "/claim/cut.py") (434 : Nat) :: [])) }) ::
  (nat_lit 194, { cls := PySem.Value.type "function", dict := (none : Option Nat), data := PySem.Data.func { name := PySem.Str.ofString "line_spans", qualname := PySem.Str.ofString "line_spans", params := (key (rfl : argsOf (stAt 17) = some _)), body := PySem.FuncBody.stmts (key (rfl : stsOf (stAt 17) = some _)), scope := (key (rfl : scopeOf (stAt 17) = some _)), globals := (3 : Nat), closure := ([] : List (Str × Nat)), defaults := PySem.Value.ref (187 : Nat), kwdefaults := PySem.Value.none, pyModule := PySem.Value.str (PySem.Str.ofString "postkeep.octets") (252 : Nat), annotations := (none : Option Nat), code := PySem.Value.ref (193 : Nat), builtins := (0 : Nat) } }) ::
  (nat_lit 195, { cls := PySem.Value.type "tuple", dict := (none : Option Nat), data := PySem.Data.seq #[] (0 : Nat) }) ::
  (nat_lit 197, { cls := PySem.Value.type "tuple", dict := (none : Option Nat), data := PySem.Data.seq #[PySem.Value.str (PySem.Str.ofString "data") (439 : Nat), PySem.Value.str (PySem.Str.ofString "found") (440 : Nat), PySem.Value.str (PySem.Str.ofString "at") (441 : Nat), PySem.Value.str (PySem.Str.ofString "code") (442 : Nat)] (0 : Nat) }) ::
  (nat_lit 198, { cls := PySem.Value.type "tuple", dict := (none : Option Nat), data := PySem.Data.seq #[] (0 : Nat) }) ::
  (nat_lit 200, { cls := PySem.Value.type "code", dict := (none : Option Nat), data := PySem.Data.fields (List.toArray (PySem.Value.str (PySem.Str.ofString "canonical") (436 : Nat) :: PySem.Value.str (PySem.Str.ofString "canonical") (437 : Nat) :: PySem.Value.str (PySem.Str.ofString "/claim/cut.py") (438 : Nat) :: PySem.Value.int 111 (0 : Nat) :: PySem.Value.int 1 (0 : Nat) :: PySem.Value.int 0 (0 : Nat) :: PySem.Value.int 0 (0 : Nat) :: PySem.Value.int 3 (0 : Nat) :: PySem.Value.ref (195 : Nat) :: PySem.Value.bool true :: PySem.Value.int 181 (0 : Nat) :: PySem.Value.ref (196 : Nat) :: PySem.Value.none :: PySem.Value.ref (197 : Nat) :: PySem.Value.ref (198 : Nat) :: PySem.Value.ref (199 : Nat) :: PySem.Value.int 443 (0 : Nat) :: PySem.Value.int 111 (0 : Nat) :: PySem.Value.str (PySem.Str.ofString "/claim/cut.py") (444 : Nat) :: [])) }) ::
  (nat_lit 201, { cls := PySem.Value.type "function", dict := (none : Option Nat), data := PySem.Data.func { name := PySem.Str.ofString "canonical", qualname := PySem.Str.ofString "canonical", params := (key (rfl : argsOf (stAt 18) = some _)), body := PySem.FuncBody.stmts (key (rfl : stsOf (stAt 18) = some _)), scope := (key (rfl : scopeOf (stAt 18) = some _)), globals := (3 : Nat), closure := ([] : List (Str × Nat)), defaults := PySem.Value.none, kwdefaults := PySem.Value.none, pyModule := PySem.Value.str (PySem.Str.ofString "postkeep.octets") (252 : Nat), annotations := (none : Option Nat), code := PySem.Value.ref (200 : Nat), builtins := (0 : Nat) } }) ::
  (nat_lit 202, { cls := PySem.Value.type "tuple", dict := (none : Option Nat), data := PySem.Data.seq #[] (0 : Nat) }) ::
  (nat_lit 204, { cls := PySem.Value.type "tuple", dict := (none : Option Nat), data := PySem.Data.seq #[PySem.Value.str (PySem.Str.ofString "data") (449 : Nat)] (0 : Nat) }) ::
  (nat_lit 205, { cls := PySem.Value.type "tuple", dict := (none : Option Nat), data := PySem.Data.seq #[] (0 : Nat) }) ::
  (nat_lit 207, { cls := PySem.Value.type "code", dict := (none : Option Nat), data := PySem.Data.fields (List.toArray (PySem.Value.str (PySem.Str.ofString "is_canonical") (446 : Nat) :: PySem.Value.str (PySem.Str.ofString "is_canonical") (447 : Nat) :: PySem.Value.str (PySem.Str.ofString "/claim/cut.py") (448 : Nat) :: PySem.Value.int 123 (0 : Nat) :: PySem.Value.int 1 (0 : Nat) :: PySem.Value.int 0 (0 : Nat) :: PySem.Value.int 0 (0 : Nat) :: PySem.Value.int 3 (0 : Nat) :: PySem.Value.ref (202 : Nat) :: PySem.Value.bool true :: PySem.Value.int 181 (0 : Nat) :: PySem.Value.ref (203 : Nat) :: PySem.Value.none :: PySem.Value.ref (204 : Nat) :: PySem.Value.ref (205 : Nat) :: PySem.Value.ref (206 : Nat) :: PySem.Value.int 450 (0 : Nat) :: PySem.Value.int 123 (0 : Nat) :: PySem.Value.str (PySem.Str.ofString "/claim/cut.py") (451 : Nat) :: [])) }) ::
  (nat_lit 208, { cls := PySem.Value.type "function", dict := (none : Option Nat), data := PySem.Data.func { name := PySem.Str.ofString "is_canonical", qualname := PySem.Str.ofString "is_canonical", params := (key (rfl : argsOf (stAt 19) = some _)), body := PySem.FuncBody.stmts (key (rfl : stsOf (stAt 19) = some _)), scope := (key (rfl : scopeOf (stAt 19) = some _)), globals := (3 : Nat), closure := ([] : List (Str × Nat)), defaults := PySem.Value.none, kwdefaults := PySem.Value.none, pyModule := PySem.Value.str (PySem.Str.ofString "postkeep.octets") (252 : Nat), annotations := (none : Option Nat), code := PySem.Value.ref (207 : Nat), builtins := (0 : Nat) } }) ::
  (nat_lit 209, { cls := PySem.Value.type "tuple", dict := (none : Option Nat), data := PySem.Data.seq #[] (0 : Nat) }) ::
  (nat_lit 212, { cls := PySem.Value.type "code", dict := (none : Option Nat), data := PySem.Data.fields (List.toArray (PySem.Value.str (PySem.Str.ofString "_law_pen") (455 : Nat) :: PySem.Value.str (PySem.Str.ofString "_law_pen") (456 : Nat) :: PySem.Value.str (PySem.Str.ofString "/claim/cut.py") (457 : Nat) :: PySem.Value.int 126 (0 : Nat) :: PySem.Value.int 1 (0 : Nat) :: PySem.Value.int 0 (0 : Nat) :: PySem.Value.int 0 (0 : Nat) :: PySem.Value.int 3 (0 : Nat) :: PySem.Value.ref (209 : Nat) :: PySem.Value.bool true :: PySem.Value.int 181 (0 : Nat) :: PySem.Value.ref (210 : Nat) :: PySem.Value.none :: PySem.Value.none :: PySem.Value.none :: PySem.Value.ref (211 : Nat) :: PySem.Value.int 458 (0 : Nat) :: PySem.Value.int 126 (0 : Nat) :: PySem.Value.str (PySem.Str.ofString "/claim/cut.py") (459 : Nat) :: [])) }) ::
  (nat_lit 213, { cls := PySem.Value.type "function", dict := (none : Option Nat), data := PySem.Data.func { name := PySem.Str.ofString "_law_pen", qualname := PySem.Str.ofString "_law_pen", params := (key (rfl : argsOf (stAt 21) = some _)), body := PySem.FuncBody.stmts (key (rfl : stsOf (stAt 21) = some _)), scope := (key (rfl : scopeOf (stAt 21) = some _)), globals := (3 : Nat), closure := ([] : List (Str × Nat)), defaults := PySem.Value.none, kwdefaults := PySem.Value.none, pyModule := PySem.Value.str (PySem.Str.ofString "law_no0362_01") (453 : Nat), annotations := (none : Option Nat), code := PySem.Value.ref (212 : Nat), builtins := (0 : Nat) } }) ::
  (nat_lit 214, { cls := PySem.Value.type "tuple", dict := (none : Option Nat), data := PySem.Data.seq #[] (0 : Nat) }) ::
  (nat_lit 216, { cls := PySem.Value.type "tuple", dict := (none : Option Nat), data := PySem.Data.seq #[PySem.Value.str (PySem.Str.ofString "pen") (464 : Nat), PySem.Value.str (PySem.Str.ofString "limit") (465 : Nat), PySem.Value.str (PySem.Str.ofString "place") (466 : Nat), PySem.Value.str (PySem.Str.ofString "digit") (467 : Nat)] (0 : Nat) }) ::
  (nat_lit 217, { cls := PySem.Value.type "tuple", dict := (none : Option Nat), data := PySem.Data.seq #[] (0 : Nat) }) ::
  (nat_lit 219, { cls := PySem.Value.type "code", dict := (none : Option Nat), data := PySem.Data.fields (List.toArray (PySem.Value.str (PySem.Str.ofString "_law_draw") (461 : Nat) :: PySem.Value.str (PySem.Str.ofString "_law_draw") (462 : Nat) :: PySem.Value.str (PySem.Str.ofString "/claim/cut.py") (463 : Nat) :: PySem.Value.int 135 (0 : Nat) :: PySem.Value.int 2 (0 : Nat) :: PySem.Value.int 0 (0 : Nat) :: PySem.Value.int 0 (0 : Nat) :: PySem.Value.int 3 (0 : Nat) :: PySem.Value.ref (214 : Nat) :: PySem.Value.bool true :: PySem.Value.int 181 (0 : Nat) :: PySem.Value.ref (215 : Nat) :: PySem.Value.none :: PySem.Value.ref (216 : Nat) :: PySem.Value.ref (217 : Nat) :: PySem.Value.ref (218 : Nat) :: PySem.Value.int 468 (0 : Nat) :: PySem.Value.int 135 (0 : Nat) :: PySem.Value.str (PySem.Str.ofString "/claim/cut.py") (469 : Nat) :: [])) }) ::
  (nat_lit 220, { cls := PySem.Value.type "function", dict := (none : Option Nat), data := PySem.Data.func { name := PySem.Str.ofString "_law_draw", qualname := PySem.Str.ofString "_law_draw", params := (key (rfl : argsOf (stAt 22) = some _)), body := PySem.FuncBody.stmts (key (rfl : stsOf (stAt 22) = some _)), scope := (key (rfl : scopeOf (stAt 22) = some _)), globals := (3 : Nat), closure := ([] : List (Str × Nat)), defaults := PySem.Value.none, kwdefaults := PySem.Value.none, pyModule := PySem.Value.str (PySem.Str.ofString "law_no0362_01") (453 : Nat), annotations := (none : Option Nat), code := PySem.Value.ref (219 : Nat), builtins := (0 : Nat) } }) ::
  (nat_lit 221, { cls := PySem.Value.type "list", dict := (none : Option Nat), data := PySem.Data.seq #[PySem.Value.int 97 (471 : Nat), PySem.Value.int 90 (472 : Nat), PySem.Value.int 48 (473 : Nat), PySem.Value.int 57 (474 : Nat), PySem.Value.int 13 (475 : Nat), PySem.Value.int 10 (476 : Nat), PySem.Value.int 32 (477 : Nat), PySem.Value.int 200 (478 : Nat), PySem.Value.int 122 (479 : Nat)] (0 : Nat) }) ::
  (nat_lit 222, { cls := PySem.Value.type "tuple", dict := (none : Option Nat), data := PySem.Data.seq #[] (0 : Nat) }) ::
  (nat_lit 225, { cls := PySem.Value.type "code", dict := (none : Option Nat), data := PySem.Data.fields (List.toArray (PySem.Value.str (PySem.Str.ofString "_law_octets") (481 : Nat) :: PySem.Value.str (PySem.Str.ofString "_law_octets") (482 : Nat) :: PySem.Value.str (PySem.Str.ofString "/claim/cut.py") (483 : Nat) :: PySem.Value.int 147 (0 : Nat) :: PySem.Value.int 2 (0 : Nat) :: PySem.Value.int 0 (0 : Nat) :: PySem.Value.int 0 (0 : Nat) :: PySem.Value.int 3 (0 : Nat) :: PySem.Value.ref (222 : Nat) :: PySem.Value.bool true :: PySem.Value.int 181 (0 : Nat) :: PySem.Value.ref (223 : Nat) :: PySem.Value.none :: PySem.Value.none :: PySem.Value.none :: PySem.Value.ref (224 : Nat) :: PySem.Value.int 484 (0 : Nat) :: PySem.Value.int 147 (0 : Nat) :: PySem.Value.str (PySem.Str.ofString "/claim/cut.py") (485 : Nat) :: [])) }) ::
  (nat_lit 226, { cls := PySem.Value.type "function", dict := (none : Option Nat), data := PySem.Data.func { name := PySem.Str.ofString "_law_octets", qualname := PySem.Str.ofString "_law_octets", params := (key (rfl : argsOf (stAt 24) = some _)), body := PySem.FuncBody.stmts (key (rfl : stsOf (stAt 24) = some _)), scope := (key (rfl : scopeOf (stAt 24) = some _)), globals := (3 : Nat), closure := ([] : List (Str × Nat)), defaults := PySem.Value.none, kwdefaults := PySem.Value.none, pyModule := PySem.Value.str (PySem.Str.ofString "law_no0362_01") (453 : Nat), annotations := (none : Option Nat), code := PySem.Value.ref (225 : Nat), builtins := (0 : Nat) } }) ::
  (nat_lit 227, { cls := PySem.Value.type "tuple", dict := (none : Option Nat), data := PySem.Data.seq #[] (0 : Nat) }) ::
  (nat_lit 229, { cls := PySem.Value.type "tuple", dict := (none : Option Nat), data := PySem.Data.seq #[PySem.Value.str (PySem.Str.ofString "pen") (490 : Nat), PySem.Value.str (PySem.Str.ofString "head") (491 : Nat), PySem.Value.str (PySem.Str.ofString "part") (492 : Nat), PySem.Value.str (PySem.Str.ofString "at") (493 : Nat), PySem.Value.str (PySem.Str.ofString "way") (494 : Nat), PySem.Value.str (PySem.Str.ofString "word") (495 : Nat), PySem.Value.str (PySem.Str.ofString "ahead") (496 : Nat), PySem.Value.str (PySem.Str.ofString "is_there") (497 : Nat), PySem.Value.str (PySem.Str.ofString "end") (498 : Nat), PySem.Value.str (PySem.Str.ofString "found") (499 : Nat)] (0 : Nat) }) ::
  (nat_lit 230, { cls := PySem.Value.type "tuple", dict := (none : Option Nat), data := PySem.Data.seq #[] (0 : Nat) }) ::
  (nat_lit 232, { cls := PySem.Value.type "code", dict := (none : Option Nat), data := PySem.Data.fields (List.toArray (PySem.Value.str (PySem.Str.ofString "_law_deed") (487 : Nat) :: PySem.Value.str (PySem.Str.ofString "_law_deed") (488 : Nat) :: PySem.Value.str (PySem.Str.ofString "/claim/cut.py") (489 : Nat) :: PySem.Value.int 149 (0 : Nat) :: PySem.Value.int 4 (0 : Nat) :: PySem.Value.int 0 (0 : Nat) :: PySem.Value.int 0 (0 : Nat) :: PySem.Value.int 3 (0 : Nat) :: PySem.Value.ref (227 : Nat) :: PySem.Value.bool true :: PySem.Value.int 181 (0 : Nat) :: PySem.Value.ref (228 : Nat) :: PySem.Value.none :: PySem.Value.ref (229 : Nat) :: PySem.Value.ref (230 : Nat) :: PySem.Value.ref (231 : Nat) :: PySem.Value.int 500 (0 : Nat) :: PySem.Value.int 149 (0 : Nat) :: PySem.Value.str (PySem.Str.ofString "/claim/cut.py") (501 : Nat) :: [])) }) ::
  (nat_lit 233, { cls := PySem.Value.type "function", dict := (none : Option Nat), data := PySem.Data.func { name := PySem.Str.ofString "_law_deed", qualname := PySem.Str.ofString "_law_deed", params := (key (rfl : argsOf (stAt 25) = some _)), body := PySem.FuncBody.stmts (key (rfl : stsOf (stAt 25) = some _)), scope := (key (rfl : scopeOf (stAt 25) = some _)), globals := (3 : Nat), closure := ([] : List (Str × Nat)), defaults := PySem.Value.none, kwdefaults := PySem.Value.none, pyModule := PySem.Value.str (PySem.Str.ofString "law_no0362_01") (453 : Nat), annotations := (none : Option Nat), code := PySem.Value.ref (232 : Nat), builtins := (0 : Nat) } }) ::
  (nat_lit 234, { cls := PySem.Value.type "tuple", dict := (none : Option Nat), data := PySem.Data.seq #[] (0 : Nat) }) ::
  (nat_lit 236, { cls := PySem.Value.type "tuple", dict := (none : Option Nat), data := PySem.Data.seq #[PySem.Value.str (PySem.Str.ofString "part") (506 : Nat), PySem.Value.str (PySem.Str.ofString "rows") (507 : Nat), PySem.Value.str (PySem.Str.ofString "row") (508 : Nat), PySem.Value.str (PySem.Str.ofString "code") (509 : Nat)] (0 : Nat) }) ::
  (nat_lit 237, { cls := PySem.Value.type "tuple", dict := (none : Option Nat), data := PySem.Data.seq #[] (0 : Nat) }) ::
  (nat_lit 239, { cls := PySem.Value.type "code", dict := (none : Option Nat), data := PySem.Data.fields (List.toArray (PySem.Value.str (PySem.Str.ofString "_law_lines") (503 : Nat) :: PySem.Value.str (PySem.Str.ofString "_law_lines") (504 : Nat) :: PySem.Value.str (PySem.Str.ofString "/claim/cut.py") (505 : Nat) :: PySem.Value.int 174 (0 : Nat) :: PySem.Value.int 1 (0 : Nat) :: PySem.Value.int 0 (0 : Nat) :: PySem.Value.int 0 (0 : Nat) :: PySem.Value.int 3 (0 : Nat) :: PySem.Value.ref (234 : Nat) :: PySem.Value.bool true :: PySem.Value.int 181 (0 : Nat) :: PySem.Value.ref (235 : Nat) :: PySem.Value.none :: PySem.Value.ref (236 : Nat) :: PySem.Value.ref (237 : Nat) :: PySem.Value.ref (238 : Nat) :: PySem.Value.int 510 (0 : Nat) :: PySem.Value.int 174 (0 : Nat) :: PySem.Value.str (PySem.Str.ofString "/claim/cut.py") (511 : Nat) :: [])) }) ::
  (nat_lit 240, { cls := PySem.Value.type "function", dict := (none : Option Nat), data := PySem.Data.func { name := PySem.Str.ofString "_law_lines", qualname := PySem.Str.ofString "_law_lines", params := (key (rfl : argsOf (stAt 26) = some _)), body := PySem.FuncBody.stmts (key (rfl : stsOf (stAt 26) = some _)), scope := (key (rfl : scopeOf (stAt 26) = some _)), globals := (3 : Nat), closure := ([] : List (Str × Nat)), defaults := PySem.Value.none, kwdefaults := PySem.Value.none, pyModule := PySem.Value.str (PySem.Str.ofString "law_no0362_01") (453 : Nat), annotations := (none : Option Nat), code := PySem.Value.ref (239 : Nat), builtins := (0 : Nat) } }) ::
  (nat_lit 241, { cls := PySem.Value.type "tuple", dict := (none : Option Nat), data := PySem.Data.seq #[] (0 : Nat) }) ::
  (nat_lit 243, { cls := PySem.Value.type "tuple", dict := (none : Option Nat), data := PySem.Data.seq #[PySem.Value.str (PySem.Str.ofString "line") (516 : Nat)] (0 : Nat) }) ::
  (nat_lit 244, { cls := PySem.Value.type "tuple", dict := (none : Option Nat), data := PySem.Data.seq #[] (0 : Nat) }) ::
  (nat_lit 246, { cls := PySem.Value.type "code", dict := (none : Option Nat), data := PySem.Data.fields (List.toArray (PySem.Value.str (PySem.Str.ofString "_law_plain") (513 : Nat) :: PySem.Value.str (PySem.Str.ofString "_law_plain") (514 : Nat) :: PySem.Value.str (PySem.Str.ofString "/claim/cut.py") (515 : Nat) :: PySem.Value.int 183 (0 : Nat) :: PySem.Value.int 1 (0 : Nat) :: PySem.Value.int 0 (0 : Nat) :: PySem.Value.int 0 (0 : Nat) :: PySem.Value.int 3 (0 : Nat) :: PySem.Value.ref (241 : Nat) :: PySem.Value.bool true :: PySem.Value.int 181 (0 : Nat) :: PySem.Value.ref (242 : Nat) :: PySem.Value.none :: PySem.Value.ref (243 : Nat) :: PySem.Value.ref (244 : Nat) :: PySem.Value.ref (245 : Nat) :: PySem.Value.int 517 (0 : Nat) :: PySem.Value.int 183 (0 : Nat) :: PySem.Value.str (PySem.Str.ofString "/claim/cut.py") (518 : Nat) :: [])) }) ::
  (nat_lit 247, { cls := PySem.Value.type "function", dict := (none : Option Nat), data := PySem.Data.func { name := PySem.Str.ofString "_law_plain", qualname := PySem.Str.ofString "_law_plain", params := (key (rfl : argsOf (stAt 27) = some _)), body := PySem.FuncBody.stmts (key (rfl : stsOf (stAt 27) = some _)), scope := (key (rfl : scopeOf (stAt 27) = some _)), globals := (3 : Nat), closure := ([] : List (Str × Nat)), defaults := PySem.Value.none, kwdefaults := PySem.Value.none, pyModule := PySem.Value.str (PySem.Str.ofString "law_no0362_01") (453 : Nat), annotations := (none : Option Nat), code := PySem.Value.ref (246 : Nat), builtins := (0 : Nat) } }) ::
  (nat_lit 248, { cls := PySem.Value.type "tuple", dict := (none : Option Nat), data := PySem.Data.seq #[] (0 : Nat) }) ::
  (nat_lit 250, { cls := PySem.Value.type "tuple", dict := (none : Option Nat), data := PySem.Data.seq #[PySem.Value.str (PySem.Str.ofString "deed") (523 : Nat), PySem.Value.str (PySem.Str.ofString "worth") (524 : Nat), PySem.Value.str (PySem.Str.ofString "fault") (525 : Nat)] (0 : Nat) }) ::
  (nat_lit 251, { cls := PySem.Value.type "tuple", dict := (none : Option Nat), data := PySem.Data.seq #[] (0 : Nat) }) ::
  (nat_lit 253, { cls := PySem.Value.type "code", dict := (none : Option Nat), data := PySem.Data.fields (List.toArray (PySem.Value.str (PySem.Str.ofString "_law_heard") (520 : Nat) :: PySem.Value.str (PySem.Str.ofString "_law_heard") (521 : Nat) :: PySem.Value.str (PySem.Str.ofString "/claim/cut.py") (522 : Nat) :: PySem.Value.int 187 (0 : Nat) :: PySem.Value.int 2 (0 : Nat) :: PySem.Value.int 0 (0 : Nat) :: PySem.Value.int 0 (0 : Nat) :: PySem.Value.int 3 (0 : Nat) :: PySem.Value.ref (248 : Nat) :: PySem.Value.bool true :: PySem.Value.int 181 (0 : Nat) :: PySem.Value.ref (249 : Nat) :: PySem.Value.none :: PySem.Value.ref (250 : Nat) :: PySem.Value.ref (251 : Nat) :: PySem.Value.ref (252 : Nat) :: PySem.Value.int 526 (0 : Nat) :: PySem.Value.int 187 (0 : Nat) :: PySem.Value.str (PySem.Str.ofString "/claim/cut.py") (527 : Nat) :: [])) }) ::
  (nat_lit 254, { cls := PySem.Value.type "function", dict := (none : Option Nat), data := PySem.Data.func { name := PySem.Str.ofString "_law_heard", qualname := PySem.Str.ofString "_law_heard", params := (key (rfl : argsOf (stAt 28) = some _)), body := PySem.FuncBody.stmts (key (rfl : stsOf (stAt 28) = some _)), scope := (key (rfl : scopeOf (stAt 28) = some _)), globals := (3 : Nat), closure := ([] : List (Str × Nat)), defaults := PySem.Value.none, kwdefaults := PySem.Value.none, pyModule := PySem.Value.str (PySem.Str.ofString "law_no0362_01") (453 : Nat), annotations := (none : Option Nat), code := PySem.Value.ref (253 : Nat), builtins := (0 : Nat) } }) ::
  (nat_lit 255, { cls := PySem.Value.type "tuple", dict := (none : Option Nat), data := PySem.Data.seq #[] (0 : Nat) }) ::
  (nat_lit 258, { cls := PySem.Value.type "code", dict := (none : Option Nat), data := PySem.Data.fields (List.toArray (PySem.Value.str (PySem.Str.ofString "law") (529 : Nat) :: PySem.Value.str (PySem.Str.ofString "law") (530 : Nat) :: PySem.Value.str (PySem.Str.ofString "/claim/cut.py") (531 : Nat) :: PySem.Value.int 192 (0 : Nat) :: PySem.Value.int 1 (0 : Nat) :: PySem.Value.int 0 (0 : Nat) :: PySem.Value.int 0 (0 : Nat) :: PySem.Value.int 3 (0 : Nat) :: PySem.Value.ref (255 : Nat) :: PySem.Value.bool true :: PySem.Value.int 181 (0 : Nat) :: PySem.Value.ref (256 : Nat) :: PySem.Value.none :: PySem.Value.none :: PySem.Value.none :: PySem.Value.ref (257 : Nat) :: PySem.Value.int 532 (0 : Nat) :: PySem.Value.int 192 (0 : Nat) :: PySem.Value.str (PySem.Str.ofString "/claim/cut.py") (533 : Nat) :: [])) }) ::
  (nat_lit 259, { cls := PySem.Value.type "function", dict := (none : Option Nat), data := PySem.Data.func { name := PySem.Str.ofString "law", qualname := PySem.Str.ofString "law", params := (key (rfl : argsOf (stAt 29) = some _)), body := PySem.FuncBody.stmts (key (rfl : stsOf (stAt 29) = some _)), scope := (Scope.mk ScopeKind.function (key (rfl : nameAt 0 = some _) :: key (rfl : nameAt 1 = some _) :: key (rfl : nameAt 2 = some _) :: key (rfl : nameAt 3 = some _) :: key (rfl : nameAt 4 = some _) :: key (rfl : nameAt 5 = some _) :: key (rfl : nameAt 6 = some _) :: key (rfl : nameAt 7 = some _) :: key (rfl : nameAt 8 = some _) :: key (rfl : nameAt 9 = some _) :: key (rfl : nameAt 10 = some _) :: key (rfl : nameAt 11 = some _) :: key (rfl : nameAt 12 = some _) :: key (rfl : nameAt 13 = some _) :: key (rfl : nameAt 14 = some _) :: key (rfl : nameAt 15 = some _) :: key (rfl : nameAt 16 = some _) :: key (rfl : nameAt 17 = some _) :: key (rfl : nameAt 18 = some _) :: key (rfl : nameAt 19 = some _) :: key (rfl : nameAt 20 = some _) :: key (rfl : nameAt 21 = some _) :: key (rfl : nameAt 22 = some _) :: key (rfl : nameAt 23 = some _) :: key (rfl : nameAt 24 = some _) :: key (rfl : nameAt 25 = some _) :: key (rfl : nameAt 26 = some _) :: key (rfl : nameAt 27 = some _) :: key (rfl : nameAt 28 = some _) :: key (rfl : nameAt 29 = some _) :: key (rfl : nameAt 30 = some _) :: key (rfl : nameAt 31 = some _) :: key (rfl : nameAt 32 = some _) :: key (rfl : nameAt 33 = some _) :: key (rfl : nameAt 34 = some _) :: key (rfl : nameAt 35 = some _) :: key (rfl : nameAt 36 = some _) :: key (rfl : nameAt 37 = some _) :: key (rfl : nameAt 38 = some _) :: key (rfl : nameAt 39 = some _) :: []) false false (key (rfl : moreAt 0 = some _) :: key (rfl : moreAt 1 = some _) :: key (rfl : moreAt 2 = some _) :: key (rfl : moreAt 3 = some _) :: key (rfl : moreAt 4 = some _) :: key (rfl : moreAt 5 = some _) :: key (rfl : moreAt 6 = some _) :: key (rfl : moreAt 7 = some _) :: key (rfl : moreAt 8 = some _) :: key (rfl : moreAt 9 = some _) :: key (rfl : moreAt 10 = some _) :: key (rfl : moreAt 11 = some _) :: key (rfl : moreAt 12 = some _) :: key (rfl : moreAt 13 = some _) :: key (rfl : moreAt 14 = some _) :: key (rfl : moreAt 15 = some _) :: key (rfl : moreAt 16 = some _) :: key (rfl : moreAt 17 = some _) :: key (rfl : moreAt 18 = some _) :: key (rfl : moreAt 19 = some _) :: key (rfl : moreAt 20 = some _) :: key (rfl : moreAt 21 = some _) :: [])), globals := (3 : Nat), closure := ([] : List (Str × Nat)), defaults := PySem.Value.none, kwdefaults := PySem.Value.none, pyModule := PySem.Value.str (PySem.Str.ofString "law_no0362_01") (453 : Nat), annotations := (none : Option Nat), code := PySem.Value.ref (258 : Nat), builtins := (0 : Nat) } }) :: [] : List (Nat × Obj))
noncomputable def hd.heap_39 : Params → Frag := by
  refine' (?f : ∀ x : Params → Frag, Lit x → Params → Frag) _ ?h
  case h =>
    have h : Lit kept0 := Lit.mk
    delta kept0 key at h
    exact h
  case f => exact fun x _ => x
noncomputable def hd.view_39 : Program := view PySem.Challenge.pw_no0362_01 [0, 2, 3, 5, 6, 7, 8, 9, 10, 11, 12, 13, 14, 15, 16, 18, 19, 21, 22, 23, 24, 25, 26, 27, 28, 29]
noncomputable abbrev hdAs : List Addr := [2, 3, 15, 17, 18, 20, 21, 22, 29, 30, 32, 33, 35, 36, 37, 39, 40, 42, 43, 44, 45, 46, 47, 50, 57, 58, 59, 69, 70, 72, 73, 75, 76, 77, 79, 80, 82, 83, 84, 85, 87, 88, 90, 91, 92, 94, 95, 97, 98, 99, 101, 102, 104, 105, 106, 108, 109, 111, 112, 113, 115, 116, 118, 119, 120, 122, 123, 125, 126, 127, 129, 130, 132, 133, 134, 136, 137, 139, 140, 141, 142, 143, 144, 145, 148, 150, 151, 153, 154, 155, 158, 159, 160, 163, 164, 165, 168, 169, 170, 172, 173, 175, 176, 177, 180, 181, 182, 185, 186, 187, 188, 190, 191, 193, 194, 195, 197, 198, 200, 201, 202, 204, 205, 207, 208, 209, 212, 213, 214, 216, 217, 219, 220, 221, 222, 225, 226, 227, 229, 230, 232, 233, 234, 236, 237, 239, 240, 241, 243, 244, 246, 247, 248, 250, 251, 253, 254, 255, 258, 259]
theorem hdAs_eq : ∀ P, hdAs = (hd.heap_39 P).map (·.1) := fun _ => by kernel_rfl
noncomputable abbrev hdHook : Hook := kHook hd.heap_39 hdAs hdAs_eq
noncomputable abbrev hdLoose : List Str := [Str.ofString "PostError", Str.ofString "line_spans", Str.ofString "_law_codes"]
/-- the run of the top, in the kernel at once -/
theorem hd_left : LeftO PySem.Challenge.pw_no0362_01 hd.view_39 hdLoose (fun s => xlAt hd.view_39 [] s && recOk [] s) (Hook.obs hdHook) (Hook.val hdHook) 3432 := by
  intro w
  kernel_rfl
theorem hd_said : PySem.Challenge.rw_no0362_01.wellSaid = true := by decide +kernel
theorem hd {d : DefRec} {kwd : List (Str × Expr)} (hdef : defOf hd.view_39 PySem.Challenge.rw_no0362_01.row.name = some (d, kwd)) (hp : PySem.Challenge.pw_no0362_01.theDef PySem.Challenge.rw_no0362_01.row.name = some (d.params, d.body, d.scope)) (hk : kwWritten? d.params.kwonlyargs d.params.kw_defaults = some kwd)
    (call : WalkO hd.view_39 hdLoose (XL hd.view_39 []) (Hook.says hdHook) PySem.Challenge.rw_no0362_01.row.toRowW d kwd fun f vs => guarded (PySem.call f vs) (pure (.bool true))) : PySem.Challenge.rw_no0362_01.Holds := by
  refine holds_law hd_said fun said => ?_
  refine open_held (q := hd.view_39) (loose := hdLoose) (Xt := fun s => xlAt hd.view_39 [] s && recOk [] s) (XP := XL hd.view_39 []) (N := 3432) hd_left (Hook.of hdHook) (Hook.keeps hdHook) (fun s e => xl_of s (Bool.and_eq_true_iff.mp e).1) XL.keeps hdef hp hk (fun s e => recFacts_of (Bool.and_eq_true_iff.mp e).2) rfl said (by decide +kernel) ⟨rfl, rfl, rfl, rfl, rfl, by decide +kernel⟩ ?_ call
  w_witness2
end
theorem fill_all (w : World) (h : (hd.heap_39 w.params).In {}) : PySem.Challenge.rw_no0362_01.Holds ∨ (hd.heap_39 w.params).In {} := by w_top off; k_fill; right; exact h
section
theorem w_dsafe_0 : True := by
  k_with_none
  trivial
/-- a tree that changes no object's own dict -/
def DSafe {α : Type} : Sem α → Prop
  | .pure _ => True
  | .raise _ => True
  | .unsupported _ => True
  | .finish _ => True
  | .rule _ k => ∀ x, DSafe (k x)
  | .at _ k => ∀ x, DSafe (k x)
  | .load _ _ k => ∀ x, DSafe (k x)
  | .update _ _ f k => (∀ o, (f o).dict = o.dict ∧ (f o).isFreed = o.isFreed) ∧ ∀ x, DSafe (k x)
  | .alloc _ k => ∀ x, DSafe (k x)
  | .loadIfAlive _ k => ∀ x, DSafe (k x)
  | .point _ k => ∀ x, DSafe (k x)
  | .register _ _ => True
  | .fresh k => ∀ x, DSafe (k x)
  | .ask k => ∀ x, DSafe (k x)
  | .stack k => ∀ x, DSafe (k x)
  | .thread k => ∀ x, DSafe (k x)
  | .handled _ k => ∀ x, DSafe (k x)
  | _ => False
/-- every object keeps its own dict -/
def DKept (h h' : Heap) : Prop := ∀ b o, h.get? b = some o → ∃ o', h'.get? b = some o' ∧ o'.dict = o.dict
theorem DKept.refl (h : Heap) : DKept h h := fun _ o e => ⟨o, e, rfl⟩
theorem DKept.trans {h₁ h₂ h₃ : Heap} (x : DKept h₁ h₂) (y : DKept h₂ h₃) : DKept h₁ h₃ := fun b o e =>
  let ⟨_, e1, d1⟩ := x b o e
  let ⟨o2, e2, d2⟩ := y b _ e1
  ⟨o2, e2, d2.trans d1⟩
theorem DKept.update {h : Heap} {a : Addr} {f : Obj → Obj} (hf : ∀ o, (f o).dict = o.dict ∧ (f o).isFreed = o.isFreed) : DKept h (h.update a f) := by
  intro b o e
  by_cases hb : a = b
  · subst hb
    refine ⟨f o, Heap.get?_update_self f e ?_, (hf o).1⟩
    rw [(hf o).2]
    exact (Heap.get?_some_iff.mp e).2
  · exact ⟨o, (Heap.get?_update_other _ _ hb).trans e, rfl⟩
theorem DSafe.wp {α : Type} {M : Model} {Γ : Ctx} : ∀ {t : Sem α} {Q : α → Pos → Shared → Prop} {E : Value → Pos → Shared → Prop} {p : Pos} {s : Shared} (h : Heap), DSafe t → DKept h s.heap → Sem.wp M Γ t Q E p s →
    Sem.wp M Γ t (fun a p' s' => Q a p' s' ∧ DKept h s'.heap) (fun e p' s' => E e p' s' ∧ DKept h s'.heap) p s
  | .pure a, Q, E, p, s, h, _, k, w => by rw [Sem.wp] at w ⊢; exact ⟨w, k⟩
  | .raise e, Q, E, p, s, h, _, k, w => by rw [Sem.wp] at w ⊢; exact ⟨w, k⟩
  | .unsupported _, Q, E, p, s, h, _, k, w => by rw [Sem.wp] at w; exact w.elim
  | .finish _, Q, E, p, s, h, _, k, w => by rw [Sem.wp] at w; exact w.elim
  | .rule _ f, Q, E, p, s, h, d, k, w => by rw [Sem.wp] at w ⊢; exact DSafe.wp (t := f ()) h (d ()) k w
  | .at _ f, Q, E, p, s, h, d, k, w => by rw [Sem.wp] at w ⊢; exact DSafe.wp (t := f ()) h (d ()) k w
  | .load a _ f, Q, E, p, s, h, d, k, w => by
    rw [Sem.wp] at w ⊢
    obtain ⟨o, ho, w⟩ := w
    exact ⟨o, ho, DSafe.wp (t := f o) h (d o) k w⟩
  | .update a _ g f, Q, E, p, s, h, d, k, w => by
    rw [Sem.wp] at w ⊢
    exact ⟨w.1, DSafe.wp (t := f ()) h (d.2 ()) (k.trans (DKept.update d.1)) w.2⟩
  | .alloc o f, Q, E, p, s, h, d, k, w => by
    rw [Sem.wp] at w ⊢
    exact DSafe.wp (t := f s.heap.objs.size) h (d _) (k.trans fun b o e => ⟨o, Heap.get?_push_of_some _ e, rfl⟩) w
  | .loadIfAlive a f, Q, E, p, s, h, d, k, w => by rw [Sem.wp] at w ⊢; exact DSafe.wp (t := f _) h (d _) k w
  | .point _ f, Q, E, p, s, h, d, k, w => by rw [Sem.wp] at w ⊢; exact DSafe.wp (t := f ()) h (d ()) k w
  | .register _ _, Q, E, p, s, h, _, k, w => by rw [Sem.wp] at w; exact w.elim
  | .fresh f, Q, E, p, s, h, d, k, w => by rw [Sem.wp] at w ⊢; exact DSafe.wp (t := f _) h (d _) k w
  | .ask f, Q, E, p, s, h, d, k, w => by rw [Sem.wp] at w ⊢; exact DSafe.wp (t := f _) h (d _) k w
  | .stack f, Q, E, p, s, h, d, k, w => by rw [Sem.wp] at w ⊢; exact DSafe.wp (t := f _) h (d _) k w
  | .thread f, Q, E, p, s, h, d, k, w => by rw [Sem.wp] at w ⊢; exact DSafe.wp (t := f _) h (d _) k w
  | .handled _ f, Q, E, p, s, h, d, k, w => by rw [Sem.wp] at w ⊢; exact DSafe.wp (t := f _) h (d _) k w
  | .choose .., _, _, _, _, _, d, _, _ => d.elim
  | .os .., _, _, _, _, _, d, _, _ => d.elim
  | .call .., _, _, _, _, _, d, _, _ => d.elim
  | .newGen .., _, _, _, _, _, d, _, _ => d.elim
  | .genState .., _, _, _, _, _, d, _, _ => d.elim
  | .resume .., _, _, _, _, _, d, _, _ => d.elim
  | .yield .., _, _, _, _, _, d, _, _ => d.elim
  | .fork .., _, _, _, _, _, d, _, _ => d.elim
  | .await .., _, _, _, _, _, d, _, _ => d.elim
theorem DSafe.any {α : Type} {M : Model} {A : Around} {t : Sem α} {Q : α → Shared → Prop} {E : Value → Shared → Prop} {s : Shared} (d : DSafe t) (w : wpAny M A t (fun a s' => DKept s.heap s'.heap → Q a s') E s) :
    wpAny M A t Q E s := fun Γ p hΓ =>
  Sem.wp_mono M Γ t (fun _ _ _ x => x.1 x.2) (fun _ _ _ x => x.1) p s (DSafe.wp s.heap d (DKept.refl _) (w Γ p hΓ))
theorem DSafe.bind {α β : Type} : ∀ {m : Sem α} {f : α → Sem β}, DSafe m → (∀ a, DSafe (f a)) → DSafe (m.bind f)
  | .pure a, f, _, h => h a
  | .raise _, f, _, _ => trivial
  | .unsupported _, f, _, _ => trivial
  | .finish _, f, _, _ => trivial
  | .rule _ k, f, d, h => fun x => DSafe.bind (d x) h
  | .at _ k, f, d, h => fun x => DSafe.bind (d x) h
  | .load _ _ k, f, d, h => fun x => DSafe.bind (d x) h
  | .update _ _ g k, f, d, h => ⟨d.1, fun x => DSafe.bind (d.2 x) h⟩
  | .alloc _ k, f, d, h => fun x => DSafe.bind (d x) h
  | .loadIfAlive _ k, f, d, h => fun x => DSafe.bind (d x) h
  | .point _ k, f, d, h => fun x => DSafe.bind (d x) h
  | .register _ _, f, _, _ => trivial
  | .fresh k, f, d, h => fun x => DSafe.bind (d x) h
  | .ask k, f, d, h => fun x => DSafe.bind (d x) h
  | .stack k, f, d, h => fun x => DSafe.bind (d x) h
  | .thread k, f, d, h => fun x => DSafe.bind (d x) h
  | .handled _ k, f, d, h => fun x => DSafe.bind (d x) h
  | .choose .., _, d, _ => d.elim
  | .os .., _, d, _ => d.elim
  | .call .., _, d, _ => d.elim
  | .newGen .., _, d, _ => d.elim
  | .genState .., _, d, _ => d.elim
  | .resume .., _, d, _ => d.elim
  | .yield .., _, d, _ => d.elim
  | .fork .., _, d, _ => d.elim
  | .await .., _, d, _ => d.elim
theorem DSafe.bind' {α β : Type} {m : Sem α} {f : α → Sem β} (a : DSafe m) (b : ∀ x, DSafe (f x)) : DSafe (m >>= f) := DSafe.bind a b
theorem DSafe.pure {α : Type} (a : α) : DSafe (Pure.pure a : Sem α) := trivial
theorem DSafe.ite {α : Type} {c : Prop} [Decidable c] {x y : Sem α} (a : DSafe x) (b : DSafe y) : DSafe (if c then x else y) := by
  split
  · exact a
  · exact b
theorem mapFields_dict (g : Array Value → Array Value) (o : Obj) : (o.mapFields g).dict = o.dict ∧ (o.mapFields g).isFreed = o.isFreed := by
  obtain ⟨c, d, da, sl⟩ := o
  cases da <;> exact ⟨rfl, rfl⟩
theorem w_dsafe_1 : True := by
  (k_with "dsafe" => (repeat' (first | exact trivial | assumption | exact ⟨mapFields_dict _, fun _ => trivial⟩ | refine DSafe.bind' ?_ ?_ | refine DSafe.ite ?_ ?_ | intro _ | split)))
  trivial
theorem dsafe_fieldsOf (v : Value) : DSafe (fieldsOf v) := by
  unfold fieldsOf
  walk_at "dsafe"
theorem dsafe_field (v : Value) (i : Nat) : DSafe (field v i) := by
  have := dsafe_fieldsOf v
  unfold field
  walk_at "dsafe"
theorem dsafe_setField (v : Value) (i : Nat) (x : Value) : DSafe (setField v i x) := by
  unfold setField
  walk_at "dsafe"
theorem w_dsafe_2 : True := by
  (k_with "dsafe" => (repeat' (first | exact trivial | assumption | exact dsafe_field _ _ | exact dsafe_setField _ _ _ | refine DSafe.bind' ?_ ?_ | refine DSafe.ite ?_ ?_ | intro _ | split)))
  trivial
theorem dsafe_setFlight (v : Value) (f : Option Addr) : DSafe (setFlight v f) := by
  unfold setFlight
  walk_at "dsafe"
theorem dsafe_behind (env : Env) (l : List Env) : DSafe (behindIsImport env l) := by
  unfold behindIsImport
  walk_at "dsafe"
theorem dsafe_keptBack (env : Env) (b : Bool) (l : List Env) : DSafe (keptBack env b l) := by
  unfold keptBack underTheClaimsCaller
  walk_at "dsafe"
theorem slots_freed (o : Obj) (sl : Array (Option Value)) : ({ cls := o.cls, dict := o.dict, data := o.data, slots := sl } : Obj).isFreed = o.isFreed := by
  obtain ⟨c, d, da, s2⟩ := o
  cases da <;> rfl
theorem dsafe_ready : ∀ l : List Env, DSafe (readyFrames l)
  | [] => trivial
  | env :: outer => by
    have h1 := dsafe_behind env outer
    have h2 := fun b => dsafe_keptBack env b outer
    have h3 := dsafe_ready outer
    unfold readyFrames
    walk_at "dsafe"
    · exact h2 _
    · exact ⟨fun o => ⟨rfl, slots_freed o _⟩, fun _ => trivial⟩
theorem dsafe_frameObject : ∀ l : List Env, DSafe (frameObject l)
  | [] => trivial
  | env :: outer => by
    have h1 := dsafe_ready (env :: outer)
    unfold frameObject
    walk_at "dsafe"
theorem dsafe_frameOf (env : Env) : DSafe (PySem.frameOf env) := by
  have h1 := dsafe_frameObject
  unfold PySem.frameOf frameEnvs
  walk_at "dsafe"
  exact h1 _
theorem dsafe_entryPlaceOf (f : Addr) (b : Bool) : DSafe (entryPlaceOf f b) := by
  unfold entryPlaceOf
  walk_at "dsafe"
theorem dsafe_newEntry (a b c d e : Value) (l : List Value) : DSafe (EntryCells.newEntry a b c d e l) := by
  unfold EntryCells.newEntry newFields newObj newObjAsIs
  walk_at "dsafe"
theorem dsafe_noteFrame (e : Value) (env : Env) : DSafe (noteFrame e env) := by
  have h1 := dsafe_frameOf env
  have h2 := dsafe_entryPlaceOf
  have h3 := dsafe_newEntry
  unfold noteFrame
  walk_at "dsafe"
  all_goals first | exact h2 _ _ | exact h3 _ _ _ _ _ _
theorem dsafe_leaving (env : Env) (e : Value) : DSafe (leaving env e) := by
  unfold leaving
  exact DSafe.bind' (dsafe_noteFrame e env) fun _ => dsafe_setFlight e none
end
section

/-- a call of a def of the text: from any caller's frame, with the ledger `news` -/
abbrev Call (w : World) (mean : ExcName → Option Value) (mg mb : Str → Option Value) (f : Addr) (vs : List Value) (news : List (Addr × Obj)) (dep un : Nat)
    (Ret : (Value → List (Addr × Obj) → Prop → Prop) → Prop) : Prop :=
  ∀ (dp u : Nat) (gd : Option (List Code)) (cn : Str) (cs : Scope) (a : Addr) (ccd : Value) (cl : List (Str × Addr)) (outer : List Env) (A₀ : Around) (base h₀ : Heap) (L : Addr) (m : Str → Option Value) (s : Shared) (Q E : Value → Shared → Prop),
    Below A₀ base outer h₀ → Fr h₀ L s.heap m → (hd.heap_39 w.params).In h₀ → News h₀ L s.heap news → Top hd.view_39 (looseW hd.view_39 [Str.ofString "PostError", Str.ofString "line_spans", Str.ofString "_law_codes"]) mean mg mb h₀ → cs.kind = .function →
    dp + dep < recursionLimit → u + un < cLine →
    Ret (fun v news' P => ∀ h' tk', Fr h₀ L h' m → News h₀ L h' news' → P → Q v { s with heap := h', toks := tk' }) →
    wpAny (model PySem.Challenge.rw_no0362_01.row.prog w) (ktrTop dp u gd cn cs L a ccd cl outer) (call (.ref f) vs) Q E s

theorem Call.use {w : World} {mean : ExcName → Option Value} {mg mb : Str → Option Value} {f : Addr} {vs : List Value} {news : List (Addr × Obj)} {dep un : Nat} {Ret : (Value → List (Addr × Obj) → Prop → Prop) → Prop}
    {dp u : Nat} {gd : Option (List Code)} {cn : Str} {cs : Scope} {a : Addr} {ccd : Value} {cl : List (Str × Addr)} {outer : List Env} {A₀ : Around} {base h₀ : Heap} {L : Addr} {m : Str → Option Value} {s : Shared} {Q E : Value → Shared → Prop}
    (B : Below A₀ base outer h₀) (F : Fr h₀ L s.heap m) (X : (hd.heap_39 w.params).In h₀) (N : News h₀ L s.heap news) (T : Top hd.view_39 (looseW hd.view_39 [Str.ofString "PostError", Str.ofString "line_spans", Str.ofString "_law_codes"]) mean mg mb h₀) (hk : cs.kind = .function)
    (hd : dp + dep < recursionLimit) (hu : u + un < cLine) (C : Call w mean mg mb f vs news dep un Ret)
    (hret : Ret (fun v news' P => ∀ h' tk', Fr h₀ L h' m → News h₀ L h' news' → P → Q v { s with heap := h', toks := tk' })) :
    wpAny (model PySem.Challenge.rw_no0362_01.row.prog w) (ktrTop dp u gd cn cs L a ccd cl outer) (call (.ref f) vs) Q E s :=
  C dp u gd cn cs a ccd cl outer A₀ base h₀ L m s Q E B F X N T hk hd hu hret

/-- a call that changes one object, from any ledger that holds it -/
theorem Call.upd {w : World} {mean : ExcName → Option Value} {mg mb : Str → Option Value} {f : Addr} {vs : List Value} {news ext : List (Addr × Obj)} {dep un : Nat} {d : Addr} {o : Obj} {gl : Obj → List (Addr × Obj)}
    {Ret : (Value → Obj → Prop → Prop) → Prop} (U : UpdF d o news gl) (hx : ∀ p ∈ ext, p ∈ news) (mono : ∀ R R' : Value → Obj → Prop → Prop, (∀ v o P, R v o P → R' v o P) → Ret R → Ret R')
    (C : ∀ rest : List (Addr × Obj), (∀ p ∈ rest, p.1 ≠ d) → Call w mean mg mb f vs ((d, o) :: (ext ++ rest)) dep un (fun R => Ret (fun v o' P => R v ((d, o') :: (ext ++ rest)) P))) :
    Call w mean mg mb f vs news dep un (fun R => Ret (fun v o' P => R v (gl o') P)) := by
  intro dp u gd cn cs a ccd cl outer A₀ base h₀ L m s Q E B F X N T hk hd hu hret
  obtain ⟨pre, post, rfl, hgl, hpre, hpost⟩ := U.split
  refine C (pre ++ post) (fun p hp => (List.mem_append.mp hp).elim (hpre p) (hpost p)) dp u gd cn cs a ccd cl outer A₀ base h₀ L m s Q E B F X ?_ T hk hd hu (mono _ _ ?_ hret)
  · intro p hp
    rcases List.mem_cons.mp hp with rfl | hp
    · exact N _ (List.mem_append.mpr (.inr (.head _)))
    · rcases List.mem_append.mp hp with h | h
      · exact N _ (hx p h)
      · rcases List.mem_append.mp h with h | h
        · exact N _ (List.mem_append.mpr (.inl h))
        · exact N _ (List.mem_append.mpr (.inr (.tail _ h)))
  · intro v o' P h h' tk' F' N' hP
    refine h h' tk' F' ?_ hP
    rw [hgl]
    intro p hp
    rcases List.mem_append.mp hp with h | h
    · exact N' _ (.tail _ (List.mem_append.mpr (.inr (List.mem_append.mpr (.inl h)))))
    · rcases List.mem_cons.mp h with rfl | h
      · exact N' _ (.head _)
      · exact N' _ (.tail _ (List.mem_append.mpr (.inr (List.mem_append.mpr (.inr h)))))

/-- a call that changes none, from any ledger that holds what it reads -/
theorem Call.read {w : World} {mean : ExcName → Option Value} {mg mb : Str → Option Value} {f : Addr} {vs : List Value} {news ext : List (Addr × Obj)} {dep un : Nat}
    {Ret : (Value → Prop → Prop) → Prop} (hx : ∀ p ∈ ext, p ∈ news) (mono : ∀ R R' : Value → Prop → Prop, (∀ v P, R v P → R' v P) → Ret R → Ret R')
    (C : Call w mean mg mb f vs (ext ++ news) dep un (fun R => Ret (fun v P => R v (ext ++ news) P))) :
    Call w mean mg mb f vs news dep un (fun R => Ret (fun v P => R v news P)) := by
  intro dp u gd cn cs a ccd cl outer A₀ base h₀ L m s Q E B F X N T hk hd hu hret
  refine C dp u gd cn cs a ccd cl outer A₀ base h₀ L m s Q E B F X (fun p hp => (List.mem_append.mp hp).elim (fun h => N p (hx p h)) (N p)) T hk hd hu (mono _ _ ?_ hret)
  intro v P h h' tk' F' N' hP
  exact h h' tk' F' (fun p hp => N' p (List.mem_append.mpr (.inr hp))) hP

/-- the pen of the law: its cells, what is left of the great number, its state, its place -/
abbrev penO (c : Addr) (g st pl : Int) (t1 t2 t3 : Tok) (n : Nat) : Obj := listOf [.ref c, .int g t1, .int st t2, .int pl t3].toArray n

end
section
section
variable {α β : Type} {M : Model} {A : Around} {E : Value → Shared → Prop} {s : Shared}
/-- as `codeAny`, from contexts alone whose frames hold no bytearray's buffer -/
def codeS (M : Model) (A : Around) (c : Code) (R : Result → Shared → Prop) (s : Shared) : Prop :=
  ∀ Γ p, Γ.code = c → Γ.Below A → fineL Γ.below = true → wpCode M Γ R p s
theorem wpS_of {t : Sem α} {Q : α → Shared → Prop} (h : wpAny M A t Q E s) : wpS M A t Q E s := fun Γ p hΓ _ _ => h Γ p hΓ
theorem codeS_of {c : Code} {R : Result → Shared → Prop} (h : codeAny M A c R s) : codeS M A c R s := fun Γ p hc hΓ _ => h Γ p hc hΓ
theorem wpS_mono {t : Sem α} {Q Q' : α → Shared → Prop} {E' : Value → Shared → Prop} (h : wpS M A t Q E s) (hQ : ∀ a s, Q a s → Q' a s) (hE : ∀ e s, E e s → E' e s) : wpS M A t Q' E' s :=
  fun Γ p hΓ h1 h2 => Sem.wp_mono M Γ t (fun a _ s => hQ a s) (fun e _ s => hE e s) p s (h Γ p hΓ h1 h2)
theorem wpS_bind {m : Sem α} {f : α → Sem β} {Q : β → Shared → Prop} (h : wpS M A m (fun a s' => wpS M A (f a) Q E s') E s) : wpS M A (m >>= f) Q E s := fun Γ p hΓ h1 h2 => by
  rw [Sem.wp_bind']
  exact Sem.wp_mono M Γ m (fun a p' s' h' => h' Γ p' hΓ h1 h2) (fun _ _ _ h' => h') p s (h Γ p hΓ h1 h2)
theorem wpS_then {m : Sem α} {f : α → Sem β} {Q : β → Shared → Prop} (h : wpAny M A m (fun a s' => wpS M A (f a) Q E s') E s) : wpS M A (m >>= f) Q E s := wpS_bind (wpS_of h)
theorem wpS_pure {a : α} {Q : α → Shared → Prop} (h : Q a s) : wpS M A (pure a) Q E s := fun _ _ _ _ _ => h
theorem wpS_holding {vs : List Value} {m : Sem α} {Q : α → Shared → Prop} (h : wpS M A m Q E s) : wpS M A (holding vs m) Q E s :=
  fun Γ p hΓ h1 h2 => by rw [Sem.wp_holding]; exact h Γ p hΓ h1 h2
theorem wpS_keep {vs : List Value} {m : Sem α} {Q : α → Shared → Prop} (h : wpS M A m Q E s) : wpS M A (m.keep vs) Q E s :=
  fun Γ p hΓ h1 h2 => by rw [Sem.wp_keep]; exact h Γ p hΓ h1 h2
theorem wpS_operate {vs : List Value} {m : Sem Value} {Q : Value → Shared → Prop} (h : wpS M A m Q E s) : wpS M A (operate vs m) Q E s :=
  fun Γ p hΓ h1 h2 => by rw [Sem.wp_operate]; exact h Γ p hΓ h1 h2
theorem wpS_onRaise {m : Sem α} {k : Value → Sem Unit} {Q : α → Shared → Prop} (h : wpS M A m Q (fun e s' => wpAny M A (k e) (fun _ s'' => E e s'') E s') s) : wpS M A (m.onRaise k) Q E s := fun Γ p hΓ h1 h2 => by
  rw [Sem.wp_onRaise]
  exact Sem.wp_mono M Γ m (fun _ _ _ h' => h') (fun e p' s' h' => h' Γ p' hΓ) p s (h Γ p hΓ h1 h2)
theorem fine_enter {Γ : Ctx} {c : Code} {h : Option Value} {p : Pos} (h1 : okC Γ.code = true) (h2 : fineL Γ.below = true) : fineL (Γ.enter c h p).below = true := by
  show fineL ((Γ.code, p) :: Γ.below) = true
  rw [fineL_cons, h1, h2]; rfl
theorem wpS_runValue {c : Code} {Q : Value → Shared → Prop} (hc : codeS M A c (fun r s' => match r with | .ok (.ret v) => Q v s' | .ok _ => False | .error e => E e s') s) : wpS M A (runValue c) Q E s :=
  fun Γ p hΓ h1 h2 => by rw [Sem.wp_runValue]; exact hc _ p rfl (hΓ.enter c none p (by intro x; cases x)) (fine_enter h1 h2)
theorem wpS_call {f : Value} {pos : List Value} {kw : List (Str × Value)} {Q : Value → Shared → Prop} (hc : codeS M A (.call f ⟨pos, kw⟩) (fun r s' => match r with | .ok (.ret v) => Q v s' | .ok _ => False | .error e => E e s') s) : wpS M A (call f pos kw) Q E s := wpS_runValue hc
theorem wpS_runOwn {c : Code} {env : Env} {Q : Flow → Shared → Prop} (hc : codeS M A c (fun r s' => match r with | .ok f => Q f s' | .error e => cameBackBy M A env E e s') s) : wpS M A (runOwn c env none) Q E s := by
  unfold runOwn
  refine wpS_onRaise fun Γ p hΓ h1 h2 => ?_
  rw [Sem.wp_run]
  exact hc _ p rfl (hΓ.enter c none p (by intro x; cases x)) (fine_enter h1 h2)
theorem codeS_mono {c : Code} {R R' : Result → Shared → Prop} (h : codeS M A c R s) (hR : ∀ r s, R r s → R' r s) : codeS M A c R' s := fun Γ p hc hΓ hf => wpCode_mono hR (h Γ p hc hΓ hf)
theorem codeS_tree {c : Code} {R : Result → Shared → Prop} (hok : okC c = true)
    (h : wpS M (A.under c) (M.den c) (fun fin s' => match fin with | .done f => R (.ok f) s' | .again c' => c'.quiet = true ∧ codeS M A c' R s') (fun e s' => R (.error e) s') s) : codeS M A c R s := fun Γ p hc hΓ hf => by
  rw [wpCode_iff_wp, hc]
  refine Sem.wp_mono M Γ _ (fun fin p' s' h' => ?_) (fun _ _ _ h' => h') p s (h Γ p (hc ▸ hΓ.in) (by rw [hc]; exact hok) hf)
  cases fin with
  | done f => exact h'
  | again c' => exact ⟨h'.1, h'.2 (Γ.goto c') p' rfl (hΓ.goto c') hf⟩
end
section
variable {M : Model} {A : Around} {E : Value → Shared → Prop} {s : Shared} {env : Env}
theorem execsS_nil {Q : Flow → Shared → Prop} (h : Q .next s) : wpS M A (execs [] env) Q E s := fun _ _ _ _ _ => h
theorem execsS {st : Stmt} {rest : List Stmt} {Q : Flow → Shared → Prop} (h : wpS M A (exec st env) (fun f s' => match f with | .next => wpS M A (execs rest env) Q E s' | f => Q f s') E s) : wpS M A (execs (st :: rest) env) Q E s := by
  rw [execs_cons]
  refine wpS_bind (wpS_mono h (fun f s' h' => ?_) fun _ _ x => x)
  cases f <;> first | exact h' | exact wpS_pure h'
/-- a statement that needs no fine context -/
theorem execsS_any {st : Stmt} {rest : List Stmt} {Q : Flow → Shared → Prop} (h : wpAny M A (exec st env) (fun f s' => match f with | .next => wpS M A (execs rest env) Q E s' | f => Q f s') E s) : wpS M A (execs (st :: rest) env) Q E s := execsS (wpS_of h)
theorem ifS {test : Expr} {body orelse : List Stmt} {pos : Pos} {Q : Flow → Shared → Prop}
    (h : wpS M A (isTrue test env (eval test env)) (fun b s₂ => if b then wpS M A (execs body env) Q E s₂ else wpS M A (execs orelse env) Q E s₂) E s) : wpS M A (exec (.If test body orelse pos) env) Q E s := by
  rw [exec_If]
  refine wpS_then (wpAny_standAt (wpS_bind (wpS_mono h (fun b s₂ h₂ => ?_) fun _ _ x => x)))
  cases b <;> exact h₂
theorem returnS {e : Expr} {pos : Pos} {Q : Flow → Shared → Prop} (h : wpS M A (eval e env) (fun v => Q (.ret v)) E s) : wpS M A (exec (.Return (some e) pos) env) Q E s := by
  rw [exec_Return_some]
  exact wpS_then (wpAny_standAt (wpS_bind (wpS_mono h (fun v s' h' => wpS_pure h') fun _ _ x => x)))
theorem assignS {x : Str} {value : Expr} {pos pos' : Pos} {Q : Flow → Shared → Prop} (h : wpS M A (eval value env) (fun v s₁ => wpAny M A (storeName env x v) (fun _ => Q .next) E s₁) E s)
    (hs : swapsWith value (some (.Name x pos')) pos.line env = pure false := by rfl) : wpS M A (exec (.Assign [.Name x pos'] value pos) env) Q E s := by
  rw [exec_Assign_Name env x pos' value pos hs]
  refine wpS_then (wpAny_standAt (wpS_bind (wpS_mono h (fun v s₁ h₁ => wpS_then (wpAny_standAt (wpS_then (wpAny_bindName (wpAny_mono h₁ (fun _ _ y => wpS_pure y) fun _ _ x => x))))) fun _ _ x => x)))
theorem isTrue_orS {x : Expr} {rest : List Expr} {pos : Pos} {whole : Sem Value} {Q : Bool → Shared → Prop}
    (h : wpS M A (isTrue x env (eval x env)) (fun c s' => if c then Q true s' else wpS M A (isTrue (.BoolOp .Or rest pos) env whole) Q E s') E s) : wpS M A (isTrue (.BoolOp .Or (x :: rest) pos) env whole) Q E s := by
  show wpS M A (isTrue x env (eval x env) >>= fun c => match BoolOp.Or, c with
    | .And, false => pure false
    | .Or, true => pure true
    | _, _ => allTrue .Or rest env) Q E s
  refine wpS_bind (wpS_mono h (fun c s' h' => ?_) fun _ _ x => x)
  cases c with
  | false => exact h'
  | true => exact wpS_pure h'
theorem isTrue_or_nilS {pos : Pos} {whole : Sem Value} {Q : Bool → Shared → Prop} (h : Q false s) : wpS M A (isTrue (.BoolOp .Or [] pos) env whole) Q E s := wpS_pure (a := false) h
theorem compareS {l r : Expr} {op : CmpOp} {pos : Pos} {Q : Value → Shared → Prop} (h : wpS M A (eval l env) (fun a s₁ => wpAny M A (eval r env) (fun b s₂ => wpAny M A (compareOp op a b) Q E s₂) E s₁) E s)
    (hm : behindInMarks op r = false := by with_unfolding_all rfl) : wpS M A (eval (.Compare l [op] [r] pos) env) Q E s := by
  rw [eval_Compare1, markedBehindIn_of_false hm]
  refine wpS_bind (wpS_mono h (fun a s₁ h₁ => wpS_then (wpAny_holding (wpAny_mono h₁ (fun b s₂ h₂ => wpS_then (wpAny_standAt (wpS_operate (wpS_of h₂)))) fun _ _ x => x))) fun _ _ x => x)
theorem isTrue_compareS {l r : Expr} {op : CmpOp} {pos : Pos} {whole : Sem Value} {Q : Bool → Shared → Prop}
    (h : wpS M A (eval l env) (fun a s₁ => wpAny M A (eval r env) (fun b s₂ => wpAny M A (compareOp op a b) (fun c s₃ => wpAny M A (truthy c) Q E s₃) E s₂) E s₁) E s)
    (hm : behindInMarks op r = false := by with_unfolding_all rfl) : wpS M A (isTrue (.Compare l [op] [r] pos) env whole) Q E s := by
  rw [isTrue_Compare1, markedBehindIn_of_false hm]
  refine wpS_bind (wpS_mono h (fun a s₁ h₁ => wpS_then (wpAny_holding (wpAny_mono h₁ (fun b s₂ h₂ => wpS_then (wpAny_standAt (wpS_bind (wpS_operate (wpS_of (wpAny_mono h₂ (fun c s₃ h₃ => wpS_holding (wpS_of h₃)) fun _ _ x => x)))))) fun _ _ x => x))) fun _ _ x => x)
theorem callES {func : Expr} {args : List Expr} {pos : Pos} {Q : Value → Shared → Prop} (h : wpAny M A (eval func env) (fun f s₁ => wpS M A (callWith pos f [] (backTo pos (starEach args env)) []) Q E s₁) E s)
    (he : eval (.Call func args [] pos) env = (do callWith pos (← eval func env) [] (backTo pos (starEach args env)) (backToKw pos (keywordEach [] env))) := by rfl) : wpS M A (eval (.Call func args [] pos) env) Q E s := by
  rw [he]; exact wpS_then h
theorem tailS {t : Sem Value} {Q : Value → Shared → Prop} (h : wpS M A t Q E s) : wpS M A (t >>= fun r => holding [r] point >>= fun _ => pure r) Q E s :=
  wpS_bind (wpS_mono h (fun r s₂ hr => wpS_then (wpAny_holding (wpAny_point (wpS_pure hr)))) fun _ _ x => x)
theorem callWithS {P : Heap → Prop} {pos : Pos} {f : Value} {first : List Value} {args : List (Bool × Sem Value)} {Q : Value → Shared → Prop} (hplain : args.any (·.1) = false)
    (hk : ∀ h, P h → ∃ k, (k = Keeper.frame ∨ k = Keeper.machine ∨ k = Keeper.boundFrame) ∧ Looks M h (keeperOf f) k)
    (h : wpAny M A (evalArgs f true args []) (fun a s₁ => P s₁.heap ∧ wpS M A (call f (first ++ a.pos) a.kw) Q E s₁) E s) : wpS M A (callWith pos f first args []) Q E s := by
  unfold callWith
  refine wpS_then (wpAny_holding (wpAny_mono h (fun a s₁ h₁ => wpS_then (wpAny_standAt ?_)) fun _ _ x => x))
  obtain ⟨k, hk', L⟩ := hk _ h₁.1
  simp only [hplain, List.any_nil, Bool.or_false]
  refine wpS_then (L.here ?_)
  have marked (mk : Value) : wpS M A (callMarked mk f (first ++ a.pos) a.kw) Q E s₁ := by unfold callMarked; exact wpS_keep h₁.2
  rcases hk' with rfl | rfl | rfl <;> dsimp only <;> first | exact tailS h₁.2 | (split <;> first | exact tailS h₁.2 | exact tailS (marked _))
/-- a call of a def by its name, with one argument -/
theorem callWithS_K {K : Frag} {h₀ : Heap} {pos : Pos} {f : Value} {e : Expr} {Q : Value → Shared → Prop} (_X : K.In h₀) (hk : keepIn K f = true)
    (h : wpAny M A (spliced (backTo pos (starEach [e] env))) (fun vs s₁ => K.In s₁.heap ∧ wpS M A (call f ([] ++ vs)) Q E s₁) E s)
    (he : starEach [e] env = (false, eval e env) :: starEach [] env := by rfl) : wpS M A (callWith pos f [] (backTo pos (starEach [e] env)) []) Q E s := by
  rw [he] at h ⊢
  exact callWithS rfl (keeps_K hk) (Calls.evalArgs_plain h)
theorem callWithS_type0 {pos : Pos} {T : String} {Q : Value → Shared → Prop} (h : wpS M A (call (.type T) []) Q E s) : wpS M A (callWith pos (.type T) [] (backTo pos (starEach [] env)) []) Q E s :=
  callWithS (P := fun _ => True) (first := []) rfl (fun h _ => ⟨.machine, .inr (.inl rfl), .now⟩) (evalArgs_nil3 ⟨trivial, h⟩)
end
section
variable {prog : Program} {w : World} {A : Around} {s : Shared} {R : Result → Shared → Prop}
theorem codeS_func {body : List Stmt} {env : Env}
    (h : wpS (model prog w) (A.deeper env) (execs body env) (fun f s' => R (.ok (.ret (match f with | .ret v => v | _ => .none))) s')
      (fun e s' => wpAny (model prog w) (A.deeper env) (leaving env e) (fun _ s'' => R (.error e) s'') (fun e' s'' => R (.error e') s'') s') s) : codeS (model prog w) A (.func body env) R s := by
  refine codeS_tree rfl ?_
  show wpS _ (A.deeper env) (point >>= fun _ => (execs body env).onRaise (leaving env) >>= fun f => match f with | .ret v => ret v | _ => ret .none) _ _ s
  refine wpS_then (wpAny_point (wpS_bind (wpS_onRaise (wpS_mono h (fun f s' h' => ?_) fun _ _ h' => h'))))
  cases f <;> exact wpS_pure h'
theorem codeS_callF {a : Addr} {args : Args} {o : Obj} {fd : FuncData} {body : List Stmt} (hroom : A.depth < recursionLimit) (ho : s.heap.get? a = some o)
    (hd' : o.data = .func fd) (hco : fd.scope.isCoroutine = false) (hgen : fd.scope.isGenerator = false) (hbody : fd.body = .stmts body) (hcd : s.heap.CodeRec fd.code fd.qualname)
    (h : wpAny (model prog w) A.in1 (bindArgs fd args) (fun binds s₁ =>
      wpAny (model prog w) A.in1 (newFunctionEnv fd.scope fd.globals fd.closure binds (fd.qualname ++ ".<locals>.") (some a) fd.code none fd.builtins)
        (fun env s₂ => s₂.heap.NoLimit ∧ codeS (model prog w) A (.func body env) R s₂) (fun e s' => R (.error e) s') s₁) (fun e s' => R (.error e) s') s) : codeS (model prog w) A (.call (.ref a) args) R s := by
  refine codeS_tree rfl ?_
  show wpS _ A.in1 (callAny (.ref a) args) _ _ s
  obtain ⟨c, oc, vs, tq, hc, hoc, hdc, hq⟩ := hcd
  refine wpS_of ?_
  unfold callAny
  refine wpAny_bind (wpAny_load ho ?_)
  simp only [hd', callFunction, hco, hgen, hbody, hc]
  rw [hc] at h
  refine wpAny_bind (m := field (.ref c) 1) (wpAny_field hoc hdc hq (wpAny_bind (wpAny_pure ?_)))
  refine wpAny_bind (wpAny_mono h (fun binds s₁ h₁ => ?_) fun _ _ x => x)
  refine wpAny_bind (wpAny_mono h₁ (fun env s₂ h₂ => ?_) fun _ _ x => x)
  exact wpAny_bind (wpAny_enterFrame h₂.1 hroom (wpAny_pure ⟨rfl, h₂.2⟩))
/-- a def without cells is called -/
theorem code_defS {A₀ : Around} {h₀ base : Heap} {L : Addr} {m mg mb : Str → Option Value} {news : List (Addr × Obj)} {K : Frag} {p : Program} {loose : List Str} {mean : ExcName → Option Value} {env : Env} {outer : List Env} {name qual : Str} {params : Arguments} {body : List Stmt} {scope : Scope} {dV kV doc pm cdv ct oc : Value} {an od : Option Addr} {osl : Array (Option Value)} {f : Addr} {args : Args} {binds : List (Str × Value)}
    (B : Below A₀ base outer h₀) (F : Fr h₀ L s.heap m) (X₀ : K.In h₀) (N : News h₀ L s.heap news) (T : Top p loose mean mg mb h₀) (hA : A.frames = some (env :: outer)) (hf : env.frame = some L) (hke : env.scope.kind = .function)
    (ho : K.lookup f = some ⟨oc, od, .func (fnOf name qual params body scope dV kV doc pm an cdv ct), osl⟩) (hcd : codeIn K cdv qual = true) (hroom : A.depth < recursionLimit)
    (hbind : BindsTo s (fnOf name qual params body scope dV kV doc pm an cdv ct) args binds) (hloc : ∀ y ∈ binds, scope.names.lookup y.1 = some .local)
    (h : ∀ g L' h₁, Fr h₀ L g m → Fr g L' h₁ (fun y => binds.reverse.lookup y) → News g L' h₁ news → Below A base (env :: outer) g → K.In g → Top p loose mean mg mb g →
      wpS (model prog w) (A.deeper (envOf qual scope L' f cdv)) (execs body (envOf qual scope L' f cdv))
        (fun fl s' => LeaveK h₀ L m g R (match fl with | .ret v => v | _ => .none) s')
        (fun e s' => wpAny (model prog w) (A.deeper (envOf qual scope L' f cdv)) (leaving (envOf qual scope L' f cdv) e) (fun _ s'' => R (.error e) s'') (fun e' s'' => R (.error e') s'') s')
        { s with heap := h₁, toks := s.toks + binds.length })
    (hco : scope.isCoroutine = false) (hgen : scope.isGenerator = false) (hk : scope.kind = .function) (hcell : ∀ x ∈ scope.names, x.2 ≠ .cell) : codeS (model prog w) A (.call (.ref f) args) R s := by
  obtain ⟨FG, BG, st, lv⟩ := groundX (R := R) B F N hA hf hke
  have X := X₀.keeps F.keep
  refine codeS_callF (fd := fnOf name qual params body scope dV kV doc pm an cdv ct) (body := body) hroom (X _ _ ho) rfl hco hgen rfl (codeRec_of X hcd) (hbind _ _ _ _ ?_)
  refine wpAny_newFunctionEnv hcell hloc (fun h₁ hns hsb => ?_) hk
  have hk₁ : ∀ b o, s.heap.get? b = some o → h₁.get? b = some o := fun b o e => hsb.extBut b o (Nat.ne_of_lt (Heap.lt_size e)) (Heap.get?_push_of_some _ e)
  refine ⟨(T.nolimit.keeps F.keep).fresh _ hsb, codeS_func (wpS_mono (h _ s.heap.objs.size h₁ FG ⟨hns, fun b o e => hk₁ b o (of_hideAll _ e), Nat.le_of_eq (hideAll_size _ _)⟩ (fun p hp => ?_) BG (X₀.keeps st) (T.keeps st)) (fun fl s' hl => lv _ _ hl) fun _ _ y => y)⟩
  exact ⟨hk₁ _ _ (N p hp).1, Nat.ne_of_lt (Heap.lt_size (N p hp).1), hideAll_none _ (List.mem_map_of_mem hp)⟩
/-- a def with cells is called from the claim's caller -/
theorem call_cellsS {name : Str} {params : Arguments} {body : List Stmt} {scope : Scope} {pm cd doc : Value} {a : Addr} {o : Obj} {args : List Value} {binds : List (Str × Value)}
    (hroom : A.depth < recursionLimit) (ho : s.heap.get? a = some o) (hdata : o.data = .func (Calls.docDef name params body scope pm cd doc)) (hlim : s.heap.NoLimit) (hcd : s.heap.CodeRec cd name)
    (hbind : bindArgs (Calls.docDef name params body scope pm cd doc) ⟨args, []⟩ = pure binds)
    (hkind : ∀ x ∈ binds, scope.names.lookup x.1 = some .local ∨ (scope.names.lookup x.1 = some .cell ∧ ((cellsFrom (s.heap.objs.size + 1) scope.names []).lookup x.1).isSome = true))
    (hnd : ((cellsFrom 0 scope.names []).map (·.1)).Nodup)
    (h : ∀ h₁ tk cells, Fr s.heap s.heap.objs.size h₁ (bindL (envOfC name scope s.heap.objs.size a cd).kindOf binds fun _ => none) → News s.heap s.heap.objs.size h₁ cells →
      CellsAre (bindC (envOfC name scope s.heap.objs.size a cd).kindOf binds fun _ => none) (cellsFrom (s.heap.objs.size + 1) scope.names []) cells →
      wpS (model prog w) (A.deeper (envOfC name scope s.heap.objs.size a cd)) (execs body (envOfC name scope s.heap.objs.size a cd))
        (fun f s' => R (.ok (.ret (match f with | .ret v => v | _ => .none))) s')
        (fun e s' => wpAny (model prog w) (A.deeper (envOfC name scope s.heap.objs.size a cd)) (leaving (envOfC name scope s.heap.objs.size a cd) e)
          (fun _ s'' => R (.error e) s'') (fun e' s'' => R (.error e') s'') s')
        { s with heap := h₁, toks := tk })
    (hco : scope.isCoroutine = false := by rfl) (hgen : scope.isGenerator = false := by rfl) (hk : scope.kind = .function := by rfl) :
    codeS (model prog w) A (.call (.ref a) ⟨args, []⟩) R s := by
  refine codeS_callF (fd := Calls.docDef name params body scope pm cd doc) hroom ho hdata hco hgen rfl hcd ?_
  rw [hbind]
  refine wpAny_pure (wpAny_newFunctionEnv_cells hk hkind fun env' he s' x => ?_)
  subst he
  refine ⟨hlim.keeps x.toInCall.keep, codeS_func ?_⟩
  obtain ⟨h₁, tk, rfl, _⟩ := x.done
  obtain ⟨cells, NC, Y⟩ := Cl.news (h₀ := s.heap) (Nat.le_refl _) fun n c hm => ⟨x.cell n c (lookup_of_mem_nodup (cellsFrom_names scope.names 0 (s.heap.objs.size + 1) [] [] rfl ▸ hnd) hm), x.above n c hm⟩
  exact h h₁ tk cells ⟨x.toInCall.ns, x.toInCall.keep, x.toInCall.fresh⟩ NC Y
end
end
local macro_rules | `(tactic| walk_at "enter S") => `(tactic| ((first | refine' code_def ?k1 ?k2 ?k3 ?k4 ?k5 ?kA ?kF ?kK ?k6 ?k7 ?k8 ?k9 ?kB ?_ ?c2 ?c3 ?c4 ?c5 | refine' code_defS ?k1 ?k2 ?k3 ?k4 ?k5 ?kA ?kF ?kK ?k6 ?k7 ?k8 ?k9 ?kB ?_ ?c2 ?c3 ?c4 ?c5); (case kA | kF => exact rfl); (case kK => first | assumption | exact rfl); (case k1 | k2 | k3 | k4 | k5 => k_asm); (case k6 | k7 => k_is); (case k8 => ktr_room); (case k9 => first | exact BindsTo.of_eq rfl | exact binds_K (by k_in) rfl (by k_is) rfl rfl rfl); (case c5 => decide); (case kB => exact locs rfl); (case c2 | c3 | c4 => exact rfl); k_whole; intro g' L' h' FG' F' N' B' X' T'; (try dsimp only); (try k_lift B'); (try k_fold)))
section
abbrev baO (b : Array UInt8) : Obj := { cls := .type "bytearray", data := .bytearray b }
namespace BA
open Builtin
set_option maxRecDepth 100000
theorem mro : mroOf (.type "bytearray") = pure [.type "bytearray", .type "object"] := by rw [mroOf_type]; kernel_rfl
theorem look_new : typeLookup (.type "bytearray") "__new__" = pure (some (.builtin "bytearray.__new__")) := by rw [typeLookup_type, builtinLookup_eq_fast]; kernel_rfl
theorem slot_init : Slot "bytearray" "__init__" "bytearray.__init__" :=
  .of (owner := "bytearray") (n := "__init__") (by rw [typeLookup_type, builtinLookup_eq_fast]; kernel_rfl) (by decide +kernel) (by decide +kernel) (by decide +kernel)
    (by first | exact .inl (by decide +kernel) | exact .inr (by decide +kernel)) (by rw [isSubtype_type]; kernel_rfl)
theorem slot_append : Slot "bytearray" "append" "bytearray.append" :=
  .of (owner := "bytearray") (n := "append") (by rw [typeLookup_type, builtinLookup_eq_fast]; kernel_rfl) (by decide +kernel) (by decide +kernel) (by decide +kernel)
    (by first | exact .inl (by decide +kernel) | exact .inr (by decide +kernel)) (by rw [isSubtype_type]; kernel_rfl)
theorem slot_extend : Slot "bytearray" "extend" "bytearray.extend" :=
  .of (owner := "bytearray") (n := "extend") (by rw [typeLookup_type, builtinLookup_eq_fast]; kernel_rfl) (by decide +kernel) (by decide +kernel) (by decide +kernel)
    (by first | exact .inl (by decide +kernel) | exact .inr (by decide +kernel)) (by rw [isSubtype_type]; kernel_rfl)
theorem sub_self : isSubtype (.type "bytearray") (.type "bytearray") = pure true := by rw [isSubtype_type]; kernel_rfl
theorem called : TypeCalled "bytearray" "bytearray.__new__" "bytearray.__init__" :=
  ⟨by decide +kernel, by decide +kernel, ⟨_, _, mro⟩, madeBy_type mro look_new (by decide +kernel), by decide +kernel, sub_self, slot_init⟩
theorem typeCall : checkTypeCall "bytearray" ⟨[], []⟩ = pure () := by kernel_rfl
theorem newCall : checkBuiltinCall "bytearray.__new__" ⟨[.type "bytearray"], []⟩ = pure () := by kernel_rfl
theorem entry_new : entryFor table "bytearray.__new__" = some Builtin.«list.__new__» :=
  entryFor_alias (id' := "list.__new__") (by rw [fastTable_eq_tree]; kernel_rfl) (by decide +kernel) (by decide +kernel) (by rw [fastTable_eq_tree]; kernel_rfl)
theorem plain_new : plainId "bytearray.__new__" = true := by decide +kernel
theorem entry_init : entryFor table "bytearray.__init__" = some Builtin.«bytearray.__init__» := entryFor_of_tree (by kernel_rfl)
theorem entry_append : entryFor table "bytearray.append" = some Builtin.«bytearray.append» := entryFor_of_tree (by kernel_rfl)
theorem entry_extend : entryFor table "bytearray.extend" = some Builtin.«bytearray.extend» := entryFor_of_tree (by kernel_rfl)
theorem look_release : typeLookup (.type "bytearray") "__release_buffer__" = pure (some (.builtin "bytearray.__release_buffer__")) := by rw [typeLookup_type, builtinLookup_eq_fast]; kernel_rfl
theorem look_buffer : typeLookup (.type "bytearray") "__buffer__" = pure (some (.builtin "bytearray.__buffer__")) := by rw [typeLookup_type, builtinLookup_eq_fast]; kernel_rfl
theorem noBytes : typeLookup (.type "bytearray") "__bytes__" = pure none := by rw [typeLookup_type, builtinLookup_eq_fast]; kernel_rfl
theorem noIndex : typeLookup (.type "bytearray") "__index__" = pure none := by rw [typeLookup_type, builtinLookup_eq_fast]; kernel_rfl
theorem type_append : typeOf (.builtin "bytearray.append") = pure (.type "method_descriptor") := by show builtinType _ = _; rw [builtinType_eq_fast]; kernel_rfl
theorem type_extend : typeOf (.builtin "bytearray.extend") = pure (.type "method_descriptor") := by show builtinType _ = _; rw [builtinType_eq_fast]; kernel_rfl
theorem bind_init : Bytes.bindOptional "bytearray.__init__" "bytearray" ["source", "encoding", "errors"] [] [] = pure [none, none, none] := by kernel_rfl
section
variable {M : Model} {A : Around} {E : Value → Shared → Prop} {s : Shared} {D : Addr} {b : Array UInt8}
theorem not_held {self : Value} {c : Code} {p : Pos} (h : okC c = true) : (match (c, p) with
    | (.builtin "bytearray.__contains__" ⟨v :: _, _⟩, _) | (.builtin "bytearray.__mod__" ⟨v :: _, _⟩, _)
    | (.builtin "bytearray.__rmod__" ⟨_ :: v :: _, _⟩, _) | (.builtin "_struct.pack_into.held" ⟨v :: _, _⟩, _) => Bytes.sameRef v self
    | (.builtin "bytearray.find.held" ⟨_ :: _ :: held, _⟩, _) => held.any (Bytes.sameRef self)
    | (.builtin i ⟨v :: _, _⟩, _) => Bytes.sameRef v self && Bytes.decodersThatHold.contains i
    | _ => false) = false := by
  cases c with
  | builtin id args =>
    obtain ⟨pos, kw⟩ := args
    have ne : ∀ x : String, heldIds.contains x = true → ¬ id = x := by
      intro x hx e
      subst e
      have h' : (!heldIds.contains id) = true := h
      rw [hx] at h'
      cases h'
    have h6 : Bytes.decodersThatHold.contains id = false := by
      have h' : (!heldIds.contains id) = true := h
      rw [Bool.not_eq_true', heldIds, List.contains_eq_any_beq, List.any_append, Bool.or_eq_false_iff, ← List.contains_eq_any_beq] at h'
      rw [List.contains_eq_any_beq, h'.2]
    delta Mine.BA.not_held.match_1
    dsimp only
    have n1 := ne "bytearray.__contains__" (by decide +kernel)
    change (if h : id = "bytearray.__contains__" then _ else _) = _
    rw [dif_neg n1, dif_neg (ne "bytearray.__mod__" (by decide +kernel)), dif_neg (ne "bytearray.__rmod__" (by decide +kernel)), dif_neg (ne "_struct.pack_into.held" (by decide +kernel)), dif_neg (ne "bytearray.find.held" (by decide +kernel))]
    cases pos with
    | nil => rfl
    | cons v rest =>
      show (Bytes.sameRef v self && Bytes.decodersThatHold.contains id) = false
      rw [h6, Bool.and_false]
  | _ => rfl
theorem exportedS {self : Value} {Q : Bool → Shared → Prop} (h : Q false s) : wpS M A (Bytes.exported self) Q E s := by
  intro Γ p hΓ h1 h2
  have key : ∀ l : List (Code × Pos), fineL l = true → (l.any fun x => (match x with
    | (.builtin "bytearray.__contains__" ⟨v :: _, _⟩, _) | (.builtin "bytearray.__mod__" ⟨v :: _, _⟩, _)
    | (.builtin "bytearray.__rmod__" ⟨_ :: v :: _, _⟩, _) | (.builtin "_struct.pack_into.held" ⟨v :: _, _⟩, _) => Bytes.sameRef v self
    | (.builtin "bytearray.find.held" ⟨_ :: _ :: held, _⟩, _) => held.any (Bytes.sameRef self)
    | (.builtin i ⟨v :: _, _⟩, _) => Bytes.sameRef v self && Bytes.decodersThatHold.contains i
    | _ => false)) = false := by
    intro l hl
    refine List.any_eq_false.mpr fun x hx => ?_
    have := not_held (self := self) (p := x.2) (List.all_eq_true.mp hl x hx)
    exact Bool.eq_false_iff.mp this
  have e := key ((Γ.code, p) :: Γ.below) (by rw [fineL_cons, h1, h2]; rfl)
  show (fun a _ s' => Q a s') (((Γ.code, p) :: Γ.below).any _) p s
  refine Eq.mpr (congrArg (fun b => Q b s) e) h
theorem exportsOf_ {Q : Nat → Shared → Prop} (ho : s.heap.get? D = some (baO b)) (h : Q 0 s) : wpAny M A (Bytes.exportsOf (.ref D)) Q E s := by
  unfold Bytes.exportsOf
  exact wpAny_bind (wpAny_load ho (wpAny_pure h))
theorem lentS {Q : Bool → Shared → Prop} (ho : s.heap.get? D = some (baO b)) (h : Q false s) : wpS M A (Bytes.exported (.ref D) <||> (do return (← Bytes.exportsOf (.ref D)) > 0)) Q E s := by
  show wpS M A (Bytes.exported (.ref D) >>= fun b => _) Q E s
  refine wpS_bind (exportedS ?_)
  exact wpS_of (wpAny_bind (exportsOf_ ho (wpAny_pure h)))
theorem checkResizeS {Q : Unit → Shared → Prop} (ho : s.heap.get? D = some (baO b)) (h : Q () s) : wpS M A (Bytes.checkResize (.ref D)) Q E s := by
  unfold Bytes.checkResize
  exact wpS_bind (lentS ho (wpS_pure h))
theorem write_ {f : Array UInt8 → Array UInt8} {Q : Unit → Shared → Prop} (ho : s.heap.get? D = some (baO b)) (hz : (f b).size ≤ sizeLine)
    (h : ∀ h', Heap.SameBut D s.heap h' → h'.get? D = some (baO (f b)) → Q () { s with heap := h' }) : wpAny M A (Bytes.write (.ref D) f) Q E s := by
  show wpAny M A (updateBytearray D f) Q E s
  unfold updateBytearray
  refine wpAny_bind (wpAny_load ho ?_)
  show wpAny _ _ (update D (Obj.mapBytearray f) >>= fun _ => lookBehind D) _ _ _
  refine wpAny_bind (wpAny_update ho ?_)
  have h2 : (s.heap.update D (Obj.mapBytearray f)).get? D = some (baO (f b)) := Heap.get?_update_self (Obj.mapBytearray f) ho rfl
  refine wpAny_lookBehind h2 ?_ (h _ (Heap.SameBut.update ..) h2)
  show (if (f b).size > sizeLine then some "bytearray:memory" else none) = none
  rw [if_neg (Nat.not_lt.mpr hz)]
theorem typeIs (ho : s.heap.get? D = some (baO b)) : s.TypeIs (.ref D) "bytearray" := ⟨_, ho, rfl⟩
theorem ownRelease_ {Q : Bool → Shared → Prop} (ho : s.heap.get? D = some (baO b)) (h : Q false s) : wpAny M A (Bytes.ownRelease (.ref D)) Q E s := by
  unfold Bytes.ownRelease Bytes.slotIsOwn
  refine wpAny_bind (wpAny_bind (wpAny_specialOf (typeIs ho) look_release ?_))
  dsimp only
  rw [if_neg (by decide +kernel)]
  have e : "bytearray.__release_buffer__".dropRight ("__release_buffer__".length + 1) = "bytearray" := by decide +kernel
  rw [e]
  exact wpAny_isInstance (typeIs ho) sub_self (wpAny_pure h)
theorem payload_ {Q : Array UInt8 → Shared → Prop} (ho : s.heap.get? D = some (baO b)) (h : Q b s) : wpAny M A (Bytes.payload (.ref D)) Q E s := by
  unfold Bytes.payload Bytes.payload?
  exact wpAny_bind (wpAny_bind (wpAny_load ho (wpAny_pure (wpAny_pure h))))
set_option maxRecDepth 1000000 in
set_option maxHeartbeats 4000000 in
theorem owner_new : ("bytearray.__new__".splitOn ".__new__").headD "" = "bytearray" := by simp +decide [String.splitOn, String.splitOnAux]
theorem ifSf {α : Type} {M : Model} {c : Bool} {a b : Sem α} {Q : α → Shared → Prop} (hc : c = false) (h : wpS M A b Q E s) : wpS M A (if c = true then a else b) Q E s := by
  subst hc
  exact h
theorem ifSt {α : Type} {M : Model} {c : Bool} {a b : Sem α} {Q : α → Shared → Prop} (hc : c = true) (h : wpS M A a Q E s) : wpS M A (if c = true then a else b) Q E s := by
  subst hc
  exact h
theorem new_ {Q : Value → Shared → Prop} {prog : Program} {w : World} (h : Q (.ref s.heap.objs.size) { s with heap := s.heap.push (baO #[]) }) :
    codeAny (model prog w) A (.call (.builtin "bytearray.__new__") ⟨[.type "bytearray"], []⟩) (wants Q E) s := by
  refine codeAny_of_tree ?_
  show wpAny _ A.in1 (do checkBuiltinCall "bytearray.__new__" ⟨[.type "bytearray"], []⟩; again (.builtin "bytearray.__new__" ⟨[.type "bytearray"], []⟩)) _ _ s
  refine wpAny_bind (wpAny_of_eq newCall (wpAny_pure ⟨plainId_quiet plain_new _, codeAny_builtin_stack entry_new rfl fun p st => ?_⟩))
  rw [Around.under_plainId plain_new _]
  have hsub := sub_self
  have hown : ("bytearray.__new__".splitOn ".__new__").headD "" = "bytearray" := owner_new
  obtain ⟨hp, g, d, tk, os⟩ := s
  simp only [hown]
  wp_walk
  exact h
theorem init_ {Q : Fin → Shared → Prop} (ho : s.heap.get? D = some (baO b)) (h : ∀ h', Heap.SameBut D s.heap h' → h'.get? D = some (baO #[]) → Q (.done (.ret .none)) { s with heap := h' }) :
    wpS M A (Builtin.«bytearray.__init__» ⟨[.ref D], []⟩) Q E s := by
  unfold Builtin.«bytearray.__init__»
  refine wpS_then (ownRelease_ ho ?_)
  refine ifSf rfl ?_
  refine wpS_then (wpAny_of_eq bind_init ?_)
  refine wpS_then (wpAny_of_eq (a := ()) rfl ?_)
  refine wpS_then (wpAny_of_eq (a := ()) rfl ?_)
  refine wpS_bind (lentS ho ?_)
  refine ifSf rfl ?_
  refine wpS_then (write_ ho (Nat.zero_le _) fun h' hs hd => ?_)
  refine wpS_of ?_
  show wpAny M A ((pure () : Sem Unit) >>= fun _ => ret .none) Q E _
  exact wpAny_bind (wpAny_pure (wpAny_pure (h h' hs hd)))
theorem byteValue_ {k : Int} {t : Tok} {Q : UInt8 → Shared → Prop} (h0 : 0 ≤ k) (h1 : k < 256) (h : Q k.toNat.toUInt8 s) : wpAny M A (Bytes.byteValue (.int k t)) Q E s := by
  unfold Bytes.byteValue
  refine wpAny_bind (wpAny_of_eq (a := k) rfl ?_)
  refine bm_if_false (by simp only [Bool.or_eq_false_iff, decide_eq_false_iff_not]; omega) ?_
  exact wpAny_bind (wpAny_pure (wpAny_pure h))
theorem append_ {k : Int} {t : Tok} {Q : Fin → Shared → Prop} (ho : s.heap.get? D = some (baO b)) (h0 : 0 ≤ k) (h1 : k < 256) (hz : b.size + 1 ≤ sizeLine)
    (h : ∀ h', Heap.SameBut D s.heap h' → h'.get? D = some (baO (b.push k.toNat.toUInt8)) → Q (.done (.ret .none)) { s with heap := h' }) : wpS M A (Builtin.«bytearray.append» ⟨[.ref D, .int k t], []⟩) Q E s := by
  unfold Builtin.«bytearray.append»
  refine wpS_then (wpAny_of_eq (a := (.ref D, .int k t)) rfl ?_)
  refine wpS_then (byteValue_ h0 h1 ?_)
  refine wpS_bind (checkResizeS ho ?_)
  refine wpS_then (write_ ho (by rw [Array.size_push]; exact hz) fun h' hs hd => ?_)
  exact wpS_pure (h h' hs hd)
theorem take_ {id : String} {c : Array UInt8} {u : Tok} {Q : Option (Array UInt8 × Option Value) → Shared → Prop} (h : Q (some (c, none)) s) : wpAny M A (Bytes.takeBufferQuiet? id (.bytes c u) 0) Q E s := by
  unfold Bytes.takeBufferQuiet? Bytes.takeBuffer?
  refine wpAny_bind (wpAny_attempt ?_)
  refine wpAny_bind (wpAny_of_eq (KBy.special_eq KBy.look_buffer) ?_)
  refine wpAny_bind (wpAny_of_eq KBy.own_buffer ?_)
  refine bm_if_false rfl ?_
  refine wpAny_bind (wpAny_of_eq (KBy.special_eq KBy.look_buffer) ?_)
  refine wpAny_bind (wpAny_of_eq KBy.buffer_eq ?_)
  exact wpAny_pure (wpAny_pure h)
theorem extend_ {c : Array UInt8} {u : Tok} {Q : Fin → Shared → Prop} (ho : s.heap.get? D = some (baO b)) (hz : b.size + c.size ≤ sizeLine)
    (h : ∀ h', Heap.SameBut D s.heap h' → h'.get? D = some (baO (b ++ c)) → Q (.done (.ret .none)) { s with heap := h' }) : wpS M A (Builtin.«bytearray.extend» ⟨[.ref D, .bytes c u], []⟩) Q E s := by
  unfold Builtin.«bytearray.extend»
  refine wpS_then (wpAny_of_eq (a := (.ref D, .bytes c u)) rfl ?_)
  refine wpS_then (wpAny_of_eq (KBy.special_eq KBy.look_buffer) ?_)
  refine ifSt rfl ?_
  refine wpS_then (wpAny_rule ?_)
  refine wpS_then (payload_ ho ?_)
  refine wpS_then (take_ ?_)
  refine ifSt rfl ?_
  show wpS M A (if (!c.isEmpty) = true then (Bytes.checkResize (.ref D) >>= fun _ => Bytes.write (.ref D) (· ++ c) >>= fun _ => ret .none) else (Bytes.write (.ref D) (· ++ c) >>= fun _ => ret .none)) Q E s
  have last : wpS M A (Bytes.write (.ref D) (· ++ c) >>= fun _ => ret .none) Q E s := wpS_then (write_ ho (by rw [Array.size_append]; exact hz) fun h' hs hd => wpS_pure (h h' hs hd))
  cases c.isEmpty with
  | true => exact last
  | false => exact wpS_bind (checkResizeS ho last)
theorem noStr {Q : Option Str → Shared → Prop} (ho : s.heap.get? D = some (baO b)) (h : Q none s) : wpAny M A (asStr? (.ref D)) Q E s := by
  unfold asStr?
  exact wpAny_bind (wpAny_load ho (wpAny_pure h))
end
section
variable {prog : Program} {w : World} {A : Around} {E : Value → Shared → Prop} {s : Shared} {D : Addr} {b : Array UInt8}
theorem codeS_B {id : String} {args : Args} {f : Builtin} {R : Result → Shared → Prop} (hok : okC (.builtin id args) = true) (hb : entryFor table id = some f)
    (h : wpS (model prog w) (A.under (.builtin id args)) (f args) (fun fin s' => match fin with | .done f => R (.ok f) s' | .again c' => c'.quiet = true ∧ codeS (model prog w) A c' R s') (fun e s' => R (.error e) s') s) : codeS (model prog w) A (.builtin id args) R s := by
  refine codeS_tree hok ?_
  show wpS _ _ (match entryFor table id with | some b => b args | none => unsupported ((withoutEnding? id "#data").getD id)) _ _ s
  rw [hb]; exact h
theorem codeS_callB {id : String} {args : Args} {f : Builtin} {R : Result → Shared → Prop} (hq : plainId id = true) (hok : okC (.builtin id args) = true) (hb : entryFor table id = some f)
    (h : wpAny (model prog w) A.in1 (checkBuiltinCall id args) (fun _ s₁ => wpS (model prog w) A.in1 (f args)
      (fun fin s' => match fin with | .done f => R (.ok f) s' | .again c' => c'.quiet = true ∧ codeS (model prog w) A c' R s') (fun e s' => R (.error e) s') s₁)
      (fun e s' => R (.error e) s') s) : codeS (model prog w) A (.call (.builtin id) args) R s := by
  refine codeS_tree rfl ?_
  show wpS _ A.in1 (checkBuiltinCall id args >>= fun _ => again (.builtin id args)) _ _ s
  refine wpS_then (wpAny_mono h (fun _ s₁ h₁ => wpS_pure ⟨plainId_quiet hq args, codeS_B hok hb ?_⟩) fun _ _ x => x)
  rw [Around.under_plainId hq args]
  exact h₁
theorem owner : Manifest.owners.lookup (String.ofList ['y', 'a', 'r', 'r', 'a', 'e', 't', 'y', 'b'].reverse) = some Manifest.sig_bytearray := by kernel_rfl
theorem args_append (a c : Value) : argsOk "bytearray.append" ⟨[a, c], []⟩ := by
  unfold argsOk; rw [signature?_of (id := "bytearray.append") (n := ['d', 'n', 'e', 'p', 'p', 'a']) (o := ['y', 'a', 'r', 'r', 'a', 'e', 't', 'y', 'b']) (by kernel_rfl) owner]; kernel_rfl
theorem args_extend (a c : Value) : argsOk "bytearray.extend" ⟨[a, c], []⟩ := by
  unfold argsOk; rw [signature?_of (id := "bytearray.extend") (n := ['d', 'n', 'e', 't', 'x', 'e']) (o := ['y', 'a', 'r', 'r', 'a', 'e', 't', 'y', 'b']) (by kernel_rfl) owner]; kernel_rfl
theorem args_init (a : Value) : argsOk "bytearray.__init__" ⟨[a], []⟩ := by
  unfold argsOk; rw [signature?_of (id := "bytearray.__init__") (n := ['_', '_', 't', 'i', 'n', 'i', '_', '_']) (o := ['y', 'a', 'r', 'r', 'a', 'e', 't', 'y', 'b']) (by kernel_rfl) owner]; kernel_rfl
theorem callSpecialS {self : Value} {T : String} {name : Str} {id : String} {args : List Value} {Q : Option Value → Shared → Prop} (hT : s.TypeIs self T) (h : Slot T name id)
    (hc : wpS (model prog w) A (call (.builtin id) (self :: args)) (fun v => Q (some v)) E s) : wpS (model prog w) A (callSpecial? self name args []) Q E s := by
  simp only [callSpecial?]
  refine wpS_then (wpAny_specialOf hT h.lookup ?_)
  simp only [h.bind]
  exact wpS_holding (wpS_then (wpAny_pure (wpS_bind (wpS_mono hc (fun v s' h' => wpS_pure h') fun _ _ x => x))))
theorem call_append {k : Int} {t : Tok} {Q : Value → Shared → Prop} (ho : s.heap.get? D = some (baO b)) (h0 : 0 ≤ k) (h1 : k < 256) (hz : b.size + 1 ≤ sizeLine)
    (h : ∀ h', Heap.SameBut D s.heap h' → h'.get? D = some (baO (b.push k.toNat.toUInt8)) → Q .none { s with heap := h' }) : wpS (model prog w) A (call (.builtin "bytearray.append") [.ref D, .int k t]) Q E s :=
  wpS_call (codeS_callB slot_append.plain (show (!heldIds.contains "bytearray.append") = true by decide +kernel) entry_append (slot_append.check _ _ _ _ _ _ _ _ (typeIs ho) (args_append _ _) (append_ ho h0 h1 hz h)))
theorem call_extend {c : Array UInt8} {u : Tok} {Q : Value → Shared → Prop} (ho : s.heap.get? D = some (baO b)) (hz : b.size + c.size ≤ sizeLine)
    (h : ∀ h', Heap.SameBut D s.heap h' → h'.get? D = some (baO (b ++ c)) → Q .none { s with heap := h' }) : wpS (model prog w) A (call (.builtin "bytearray.extend") [.ref D, .bytes c u]) Q E s :=
  wpS_call (codeS_callB slot_extend.plain (show (!heldIds.contains "bytearray.extend") = true by decide +kernel) entry_extend (slot_extend.check _ _ _ _ _ _ _ _ (typeIs ho) (args_extend _ _) (extend_ ho hz h)))
theorem call_new {Q : Value → Shared → Prop} (h : ∀ h', Heap.SameBut s.heap.objs.size (s.heap.push (baO #[])) h' → h'.get? s.heap.objs.size = some (baO #[]) → Q (.ref s.heap.objs.size) { s with heap := h' }) :
    wpS (model prog w) A (call (.type "bytearray") []) Q E s := by
  refine wpS_call (codeS_tree rfl ?_)
  show wpS _ A.in1 (again (.builtin "type.__call__" ⟨[.type "bytearray"], []⟩)) _ _ _
  refine wpS_pure ⟨Code.quiet_builtin _ (by decide +kernel), codeS_B (show (!heldIds.contains "type.__call__") = true by decide +kernel) F.entry_type_call ?_⟩
  rw [Around.under_plain (weight_type_call_type "bytearray" [] []) rfl]
  unfold Builtin.«type.__call__»
  dsimp only
  refine ifSf rfl ?_
  refine ifSf (by decide +kernel) ?_
  refine wpS_then (wpAny_of_eq typeCall ?_)
  refine wpS_then (wpAny_of_eq mro ?_)
  refine ifSf rfl ?_
  refine wpS_then (wpAny_of_eq called.made ?_)
  refine wpS_then (wpAny_pure ?_)
  refine wpS_then (wpAny_holding (wpAny_call (codeAny_mono (new_ (Q := fun v s' => v = .ref s.heap.objs.size ∧ s' = { s with heap := s.heap.push (baO #[]) }) (E := fun _ _ => False) ⟨rfl, rfl⟩) ?_)))
  intro r s' hr
  have e : r = .ok (.ret (.ref s.heap.objs.size)) ∧ s' = { s with heap := s.heap.push (baO #[]) } := by
    cases r with
    | error e => exact hr.elim
    | ok f => cases f with
      | ret v => exact ⟨by rw [hr.1], hr.2⟩
      | _ => exact hr.elim
  obtain ⟨rfl, rfl⟩ := e
  have hS : (s.heap.push (baO #[])).get? s.heap.objs.size = some (baO #[]) := Heap.get?_push_size _ rfl
  refine wpS_then (wpAny_isInstance (typeIs hS) sub_self ?_)
  refine ifSf rfl ?_
  refine wpS_bind (wpS_holding (callSpecialS (name := Str.ofString "__init__") (typeIs hS) slot_init ?_))
  refine wpS_call (codeS_callB slot_init.plain (show (!heldIds.contains "bytearray.__init__") = true by decide +kernel) entry_init (slot_init.check _ _ _ _ _ _ _ _ (typeIs hS) (args_init _) (init_ hS fun h' hs hd => ?_)))
  dsimp only
  refine ifSf (by decide +kernel) ?_
  exact wpS_pure (h h' hs hd)
end
end BA
end
section
/-- what lies ahead of a reading head: from place i to the end e -/
def sg (ks : List Int) (i e : Int) : List Int := (ks.take e.toNat).drop i.toNat
theorem sg_len {ks : List Int} {i e : Int} (hi : 0 ≤ i) (he : i ≤ e) (h : e ≤ ks.length) : ((sg ks i e).length : Int) = e - i := by
  obtain ⟨a, rfl⟩ := Int.eq_ofNat_of_zero_le hi
  obtain ⟨c, rfl⟩ := Int.eq_ofNat_of_zero_le (Int.le_trans hi he)
  rw [sg, Int.toNat_natCast, Int.toNat_natCast, List.length_drop, List.length_take, Nat.min_eq_left (Int.ofNat_le.mp h), Int.ofNat_sub (Int.ofNat_le.mp he)]
theorem sg_get {ks : List Int} {i e : Int} (j : Nat) (hi : 0 ≤ i) (h : e ≤ ks.length) (hj : i + j < e) : (sg ks i e)[j]? = some (ks.getD (i + j).toNat 0) := by
  have h1 : (i + j).toNat = i.toNat + j := Int.toNat_add hi (Int.natCast_nonneg j)
  have h2 : i.toNat + j < ks.length := by omega
  rw [sg, List.getElem?_drop, List.getElem?_take, if_pos (by omega), h1, List.getD_eq_getElem?_getD, List.getElem?_eq_getElem h2]
  rfl
theorem sg_none {ks : List Int} {i e : Int} (j : Nat) (hi : 0 ≤ i) (hj : ¬ i + j < e) : (sg ks i e)[j]? = none := by
  rw [sg, List.getElem?_drop, List.getElem?_take, if_neg (by omega)]
theorem sg_nil {ks : List Int} {i e : Int} (hi : 0 ≤ i) (he : i ≤ e) (h : e ≤ ks.length) : decide (e ≤ i) = decide (sg ks i e = []) := by
  have := sg_len hi he h
  by_cases q : e ≤ i
  · have : sg ks i e = [] := List.length_eq_zero_iff.mp (by omega)
    simp [q, this]
  · have : sg ks i e ≠ [] := fun e => by rw [e] at this; simp at this; omega
    simp [q, this]
theorem clip_in {n : Nat} {k : Int} (h0 : 0 ≤ k) : clipAt n k = min k.toNat n := by
  obtain ⟨m, rfl⟩ := Int.eq_ofNat_of_zero_le h0
  exact clipAt_nat n m
/-- the slice that a bytes' rule hands back -/
theorem cut_eq {ks : List Int} {i j : Int} (hi : 0 ≤ i) (hj : 0 ≤ j) : List.take (clipAt ks.length j - clipAt ks.length i) (List.drop (clipAt ks.length i) ks) = sg ks i j := by
  rw [clip_in hi, clip_in hj, sg, List.drop_take]
  by_cases h : i.toNat ≤ ks.length
  · rw [Nat.min_eq_left h]
    by_cases h2 : j.toNat ≤ ks.length
    · rw [Nat.min_eq_left h2]
    · rw [Nat.min_eq_right (show ks.length ≤ j.toNat by omega), List.take_of_length_le (by rw [List.length_drop]; omega), List.take_of_length_le (by rw [List.length_drop]; omega)]
  · rw [Nat.min_eq_right (show ks.length ≤ i.toNat by omega), List.drop_of_length_le (Nat.le_refl _), List.drop_of_length_le (show ks.length ≤ i.toNat by omega), List.take_nil, List.take_nil]
theorem sg_sub {ks : List Int} {i j e : Int} (hi : 0 ≤ i) (h1 : i ≤ j) (h2 : j ≤ e) : sg ks i j = (sg ks i e).take (j - i).toNat := by
  obtain ⟨a, rfl⟩ := Int.eq_ofNat_of_zero_le hi
  obtain ⟨b, rfl⟩ := Int.eq_ofNat_of_zero_le (Int.le_trans hi h1)
  obtain ⟨c, rfl⟩ := Int.eq_ofNat_of_zero_le (Int.le_trans (Int.le_trans hi h1) h2)
  rw [sg, sg, List.drop_take, List.drop_take, List.take_take, Int.toNat_sub, Int.toNat_natCast, Int.toNat_natCast, Int.toNat_natCast, Nat.min_eq_left (Nat.sub_le_sub_right (Int.ofNat_le.mp h2) a)]
theorem bytes_eqb (b c : Array UInt8) : (b.toList == c.toList) = decide (KBw.bInts b = KBw.bInts c) := by
  have inj : KBw.bInts b = KBw.bInts c → b.toList = c.toList := fun h => by
    have hf : ∀ x y : UInt8, ((x.toNat : Nat) : Int) = ((y.toNat : Nat) : Int) → x = y := fun x y e => UInt8.toNat_inj.mp (by omega)
    unfold KBw.bInts at h
    exact List.map_inj_right (fun x y e => hf x y e) |>.mp h
  rw [Bool.eq_iff_iff, beq_iff_eq, decide_eq_true_iff]
  exact ⟨fun q => by unfold KBw.bInts; rw [q], inj⟩
theorem sg_self (ks : List Int) (i : Int) : sg ks i i = [] := by rw [sg, List.drop_take, Nat.sub_self, List.take_zero]
theorem sg_cons {ks : List Int} {i e : Int} (hi : 0 ≤ i) (he : i < e) (h : e ≤ ks.length) : sg ks i e = ks.getD i.toNat 0 :: sg ks (i + 1) e := by
  have h2 : i.toNat < (ks.take e.toNat).length := by rw [List.length_take]; omega
  rw [sg, sg, List.drop_eq_getElem_cons h2, show (i + 1).toNat = i.toNat + 1 by omega, List.getElem_take, List.getD_eq_getElem?_getD, List.getElem?_eq_getElem (by omega)]
  rfl
theorem sg_append {ks : List Int} {i j e : Int} (hi : 0 ≤ i) (h1 : i ≤ j) (h2 : j ≤ e) : sg ks i e = sg ks i j ++ sg ks j e := by
  have := List.take_append_drop (j - i).toNat (sg ks i e)
  rw [← sg_sub hi h1 h2] at this
  rw [← this]
  congr 1
  obtain ⟨a, rfl⟩ := Int.eq_ofNat_of_zero_le hi
  obtain ⟨b, rfl⟩ := Int.eq_ofNat_of_zero_le (Int.le_trans hi h1)
  rw [sg, sg, List.drop_drop, Int.toNat_sub, Int.toNat_natCast, Int.toNat_natCast, Nat.add_sub_cancel' (Int.ofNat_le.mp h1)]
theorem sg_snoc {ks : List Int} {i j : Int} (hi : 0 ≤ i) (h1 : i ≤ j) (h : j < ks.length) : sg ks i (j + 1) = sg ks i j ++ [ks.getD j.toNat 0] := by
  rw [sg_append hi h1 (show j ≤ j + 1 by omega), sg_cons (i := j) (e := j + 1) (by omega) (by omega) (by omega), sg_self]
/-- a loop that goes on while p holds -/
def Gone (p : Int → Bool) (ks : List Int) (i j e : Int) : Prop := (sg ks i e).takeWhile p = sg ks i j ++ (sg ks j e).takeWhile p
theorem Gone.start (p : Int → Bool) (ks : List Int) (i e : Int) : Gone p ks i i e := by rw [Gone, sg_self, List.nil_append]
theorem Gone.step {p : Int → Bool} {ks : List Int} {i j e : Int} (g : Gone p ks i j e) (hi : 0 ≤ i) (h1 : i ≤ j) (h2 : j < e) (h : e ≤ ks.length) (hp : p (ks.getD j.toNat 0) = true) : Gone p ks i (j + 1) e := by
  rw [Gone] at *
  rw [g, sg_snoc hi h1 (by omega), sg_cons (by omega) h2 h, List.takeWhile_cons_of_pos hp, List.append_assoc]
  rfl
theorem Gone.stop {p : Int → Bool} {ks : List Int} {i j e : Int} (g : Gone p ks i j e) (hi : 0 ≤ i) (h1 : i ≤ j) (h2 : j < e) (h : e ≤ ks.length) (hp : p (ks.getD j.toNat 0) = false) : (sg ks i e).takeWhile p = sg ks i j := by
  rw [Gone] at g
  rw [g, sg_cons (by omega) h2 h, List.takeWhile_cons_of_neg (by rw [hp]; exact Bool.false_ne_true), List.append_nil]
theorem Gone.done {p : Int → Bool} {ks : List Int} {i j e : Int} (g : Gone p ks i j e) (h1 : j ≤ e) (h2 : ¬ j < e) : (sg ks i e).takeWhile p = sg ks i j := by
  obtain rfl : j = e := by omega
  rw [Gone] at g
  rw [g, sg_self, List.takeWhile_nil, List.append_nil]
theorem sg_end (ks : List Int) (i : Int) : sg ks i ks.length = ks.drop i.toNat := by rw [sg, Int.toNat_natCast, List.take_length]
theorem sg_take {ks : List Int} {i : Int} (hi : 0 ≤ i) (n : Nat) : sg ks i (i + n) = (sg ks i ks.length).take n := by
  obtain ⟨a, rfl⟩ := Int.eq_ofNat_of_zero_le hi
  rw [sg_end, sg, List.drop_take, ← Int.natCast_add, Int.toNat_natCast, Int.toNat_natCast, Nat.add_sub_cancel_left]
/-- the part's own rest is what lies ahead of the head -/
theorem sg_part {ks ps : List Int} {i0 e a : Int} (h0 : 0 ≤ i0) (he : i0 ≤ e) (he2 : e ≤ ks.length) (hps : ps = sg ks i0 e) (ha : 0 ≤ a) (ha1 : a ≤ ps.length) : sg ks (i0 + a) e = sg ps a ps.length := by
  rw [sg_end, hps, sg, sg, List.drop_drop, Int.toNat_add h0 ha]
end
theorem w_kit_0 : True := by
  k_with_none
  trivial
theorem allLt_ne {d : Addr} : ∀ {l : List (Addr × Obj)}, AllLt d l → ∀ p ∈ l, p.1 ≠ d
  | [], _, _, h => nomatch h
  | _ :: _, x, p, h => by
    rcases List.mem_cons.mp h with rfl | h
    · exact Nat.ne_of_lt x.1
    · exact allLt_ne x.2 p h
section
variable {prog : Program} {w : World} {A : Around} {h₀ : Heap} {L : Addr} {m : Str → Option Value} {env : Env} {elt : Expr} {x : Str} {scope : Scope} {cl : List (Str × Addr)} {s : Shared} {S : List (Addr × Obj) → Prop} {P : Nat → Value → Prop} {Fin : List Value → List (Addr × Obj) → Prop} {news : List (Addr × Obj)}
/-- a comprehension by an invariant over what it has made and the ledger -/
theorem comp_inv {n : Nat} (J : Nat → List Value → List (Addr × Obj) → Prop) (h0 : J 0 [] news)
    (turn : ∀ i v ys nw I oI C oC D m₂ h tk (E' : Value → Shared → Prop), i < n → P i v → ys.length = i → J i ys nw → LCg.NsObj oC m₂ → m₂ x = some v → Fr h₀ L h m → News h₀ L h ((I, oI) :: (C, oC) :: (D, LCg.lst ys) :: nw) →
      LCg.Off3 I C D nw → ((@Ne Nat I C) ∧ (@Ne Nat I D) ∧ (@Ne Nat C D)) →
      wpAny (model prog w) A (eval elt (compEnvC scope cl C env)) (LCg.CompEnd h₀ L m { s with heap := h, toks := tk } I oI C oC D (LCg.lst ys) S (fun y nw' => J (i + 1) (ys ++ [y]) nw')) E' { s with heap := h, toks := tk })
    (fin : ∀ ys nw, ys.length = n → J n ys nw → Fin ys nw) : LCg.CompRest prog w A h₀ L m env elt x scope cl s S P Fin n 0 [] news := by
  have key : ∀ (j i : Nat) (ys : List Value) (nw : List (Addr × Obj)), i + j = n → ys.length = i → J i ys nw → LCg.CompRest prog w A h₀ L m env elt x scope cl s S P Fin j i ys nw := by
    intro j
    induction j with
    | zero =>
      intro i ys nw hi hl hJ
      obtain rfl : i = n := by omega
      exact LCg.CompRest.zero (fin ys nw hl hJ)
    | succ j ih =>
      intro i ys nw hi hl hJ
      refine LCg.CompRest.succ ?_
      intro v I oI C oC D m₂ h tk E' hv hC hx F N off ne
      refine wpAny_mono (turn i v ys nw I oI C oC D m₂ h tk E' (by omega) hv hl hJ hC hx F N off ne) (fun y s₂ hq => ?_) fun _ _ e => e
      obtain ⟨h', tk', nw', e, F', N', off', hS, hJ'⟩ := hq
      exact ⟨h', tk', nw', e, F', N', off', hS, ih (i + 1) _ _ (by omega) (by simp [hl]) hJ'⟩
  exact key n 0 [] news (by omega) rfl h0
end
theorem fr_twice {h₀ h : Heap} {L : Addr} {x : Str} {a b : Option Value} {m : Str → Option Value} (F : Fr h₀ L h (fun y => if y = x then a else if y = x then b else m y)) : Fr h₀ L h (fun y => if y = x then a else m y) := by
  have e : (fun y => if y = x then a else if y = x then b else m y) = fun y => if y = x then a else m y := by
    funext y
    by_cases h : y = x
    · rw [if_pos h, if_pos h]
    · rw [if_neg h, if_neg h, if_neg h]
  rw [← e]; exact F
/-- how a turn of a while ends -/
theorem step2 {h₀ : Heap} {L : Addr} {s : Shared} {J : Nat → (Str → Option Value) → List (Addr × Obj) → Prop} {Q : Flow → Shared → Prop} {n : Nat} {h : Heap} {tk : Nat} {m : Str → Option Value} {nw : List (Addr × Obj)} {n' : Nat}
    (F : Fr h₀ L h m) (N : News h₀ L h nw) (lt : n' < n) (j : J n' m nw) : WhileStep2 h₀ L s J Q n .next { s with heap := h, toks := tk } := ⟨_, _, _, _, _, rfl, F, N, lt, j⟩
/-- a while that turns one int name and the ledger -/
theorem While_int {prog : Program} {w : World} {A : Around} {E : Value → Shared → Prop} {Q : Flow → Shared → Prop} {s : Shared} {env : Env} {h₀ : Heap} {L : Addr} {test : Expr} {body : List Stmt} {pos : Pos} {mB : Str → Option Value} {news : List (Addr × Obj)} {v₀ : Int} {t₀ : Tok} {n₀ : Nat}
    (x : Str) (J : Nat → Int → List (Addr × Obj) → Prop) (F : Fr h₀ L s.heap (fun y => if y = x then some (.int v₀ t₀) else mB y)) (N : News h₀ L s.heap news) (hJ : J n₀ v₀ news)
    (turn : ∀ n v t nx h₁ tk₁, Fr h₀ L h₁ (fun y => if y = x then some (.int v t) else mB y) → News h₀ L h₁ nx → J n v nx →
      wpAny (model prog w) A (isTrue test env (eval test env)) (fun b s₂ =>
        if b = true then wpAny (model prog w) A (execs body env) (WhileStep2 h₀ L s (fun n m nx => ∃ v t, m = (fun y => if y = x then some (.int v t) else mB y) ∧ J n v nx) Q n) E s₂ else Q .next s₂) E { s with heap := h₁, toks := tk₁ })
    (hE : PassesOwn (model prog w) A env E := by passes_own) :
    wpAny (model prog w) A (exec (.While test body [] pos) env) Q E s := by
  refine While_inv2 (fun n m nx => ∃ v t, m = (fun y => if y = x then some (.int v t) else mB y) ∧ J n v nx) F N ⟨v₀, t₀, rfl, hJ⟩ ?_ hE
  rintro n m nx h tk F N ⟨v, t, rfl, hj⟩
  exact turn n v t nx h tk F N hj
/-- a while that turns one int name alone -/
theorem While_intC {prog : Program} {w : World} {A : Around} {E : Value → Shared → Prop} {Q : Flow → Shared → Prop} {s : Shared} {env : Env} {h₀ : Heap} {L : Addr} {test : Expr} {body : List Stmt} {pos : Pos} {mB : Str → Option Value} {news : List (Addr × Obj)} {v₀ : Int} {t₀ : Tok} {n₀ : Nat}
    (x : Str) (J : Nat → Int → Prop) (F : Fr h₀ L s.heap (fun y => if y = x then some (.int v₀ t₀) else mB y)) (N : News h₀ L s.heap news) (hJ : J n₀ v₀)
    (turn : ∀ n v t h₁ tk₁, Fr h₀ L h₁ (fun y => if y = x then some (.int v t) else mB y) → News h₀ L h₁ news → J n v →
      wpAny (model prog w) A (isTrue test env (eval test env)) (fun b s₂ =>
        if b = true then wpAny (model prog w) A (execs body env) (WhileStep2 h₀ L s (fun n m nx => ∃ v t, m = (fun y => if y = x then some (.int v t) else mB y) ∧ nx = news ∧ J n v) Q n) E s₂ else Q .next s₂) E { s with heap := h₁, toks := tk₁ })
    (hE : PassesOwn (model prog w) A env E := by passes_own) :
    wpAny (model prog w) A (exec (.While test body [] pos) env) Q E s := by
  refine While_int x (fun n v nx => nx = news ∧ J n v) F N ⟨rfl, hJ⟩ ?_ hE
  rintro n v t nx h tk F' N' ⟨e, hj⟩
  rw [e] at N'
  exact turn n v t h tk F' N' hj
theorem room0 {a k n : Nat} (h : a + k < n) : a < n := Nat.lt_of_le_of_lt (Nat.le_add_right a k) h
theorem room1 {a j k n : Nat} (h : a + k < n) (e : Nat.ble j k = true) : a + j < n := Nat.lt_of_le_of_lt (Nat.add_le_add_left (Nat.le_of_ble_eq_true e) a) h
theorem room2 {a b j k n : Nat} (h : a + k < n) (e : Nat.ble (b + j) k = true) : a + b + j < n := by rw [Nat.add_assoc]; exact room1 h e
local macro_rules | `(tactic| ktr_room) => `(tactic| first | exact room2 (by assumption) (by rfl) | exact room1 (by assumption) (by rfl) | exact room0 (by assumption))
local macro_rules | `(tactic| ktr_units) => `(tactic| first | exact room2 (by assumption) (by rfl) | exact room1 (by assumption) (by rfl) | exact room0 (by assumption))
local macro_rules | `(tactic| k_ne) => `(tactic| (refine neN ?_; (try dsimp only); first | with_reducible assumption | exact Ne.symm (by with_reducible assumption) | exact Nat.ne_of_lt (by with_reducible assumption) | exact Nat.ne_of_gt (by with_reducible assumption) | omega))
local macro_rules | `(tactic| k_all) => `(tactic| first | assumption | exact allLt_ne (by assumption))
theorem w_kit_1 : True := by
  (k_with "enter" => (first
      | cell_enter
      | walk_at "enter S"
      | (refine' code_defC (by k_asm) (by k_asm) (by k_asm) (by k_asm) (by k_asm) (by exact rfl) (by exact rfl) (by first | assumption | exact rfl) (by k_is) (by k_is) (by ktr_room) (by first | exact BindsTo.of_eq rfl | exact binds_K (by k_in) rfl (by k_is) rfl rfl rfl) (by exact rfl) (by decide +kernel) ?_ (by exact rfl) (by exact rfl) (by exact rfl); k_whole; intro _ _ _ _ _ _ _ N' Y' B' _ _ l1; (try k_lt l1); k_cells Y'; (try simp only [List.cons_append, List.nil_append] at N'); (try dsimp only); (try k_lift B'); (try k_fold))))
  (k_with "call ref" => ((k_here; k_dflt (first
      | (refine' call_cls0 (by k_asm) (by k_asm) (by k_asm) (by k_is) (by k_is) ?_; k_whole; intro _ _ _ _ _ l1 l2; (try k_lt l1); (try k_lt2 l2); (try k_sweep))
      | (refine' call_cls (by k_asm) (by k_asm) (by k_asm) (by k_is) (by k_is) (by k_is) ?_; k_whole; intro _ _ _ _ _ l1 l2; (try k_lt l1); (try k_lt2 l2); (try k_sweep); walk_at "enter")
      | (refine wpAny_call ?_; walk_at "enter")))))
  (k_with "halt" => ((with_reducible show LCg.CompSrc _ _ _ _ _ _ _ _ _ _ _ _ _ _)))
  (k_with "halt" => ((with_reducible show wpAny _ _ (exec (Stmt.While _ _ _ _) _) _ _ _)))
  (k_with "halt" => ((with_reducible show wpAny _ _ (pyIter _) (fun it s₂ => LoopAtV _ _ _ _ _ _ _ _ _ it s₂) _ _)))
  (k_with "go" => (repeat' ((fail_if_success (walk_at "halt")); first | (k_unfold; (try dsimp only)) | walk1 | (dsimp only; walk1) | (leave1; walk_say "STEP leave1"; (try dsimp only)) | fail "no step")))
  trivial
section
abbrev bm59 : List Value := [.ref 46, .type "Exception", .type "BaseException", .type "object"]
/-- the class WordFault -/
abbrev o59 : Obj := excClassObj (Str.ofString "WordFault") (Str.ofString "WordFault") 59 58 [.ref 46] bm59 true [] [] false none none (some (.ref 50)) none (some (.str (Str.ofString "WordFault") 236)) (some (.str (Str.ofString "WordFault") 244)) (some (.bool true)) "Exception.__new__"
theorem mem59 (w : World) : (hd.heap_39 w.params).lookup 59 = some o59 := by rfl
theorem in59 {w : World} {h : Heap} (X : (hd.heap_39 w.params).In h) : h.get? 59 = some o59 := X _ _ (mem59 w)
abbrev argO (vs : List Value) : Obj := { cls := .type "tuple", data := .seq vs.toArray }
/-- a fault: its args, its own dict -/
abbrev fltO (t : Addr) (d : Option Addr) : Obj := { cls := .ref 59, dict := d, data := .fields #[.ref t, .none, .none, .none, .bool false, .none] }
section
variable {prog : Program} {w : World} {A : Around} {R : Result → Shared → Prop} {s : Shared} {h : Heap} {g : Array GenState} {d : Drawn} {t : Nat} {os : OsState} {E : Value → Shared → Prop}
theorem check_new59 {M : Model} {rest : List Value} {Q : Unit → Shared → Prop} (hC : h.get? 59 = some o59) (hq : Q () ⟨h, g, d, t, os⟩) : wpAny M A (checkBuiltinCall "Exception.__new__" ⟨.ref 59 :: rest, []⟩) Q E ⟨h, g, d, t, os⟩ := by
  have F := PySem.F.excBase_Exception
  have hcont : (Value.ref 59 :: bm59).contains (.type "Exception") = true := by decide
  have hstar := F.noStar
  simp only [checkBuiltinCall, F.newKind, F.newSplit, F.newRow]
  repeat (first | refine wpAny_loadPart_at hC ?_ | (refine wpAny_isSubtype_exc hC ?_; rw [hcont]) | refine wpAny_staticBase_exc hC ?_ | refine wpAny_madeBy_exc hC ?_ | simp only [bne_self_eq_false, Bool.false_eq_true, if_false] | wp_step)
  exact hq
theorem new59 {rest : List Value} (hC : h.get? 59 = some o59)
    (hq : R (.ok (.ret (.ref (h.objs.size + 1)))) ⟨(h.push (argO rest)).push (fltO h.objs.size none), g, d, t, os⟩) (hrest : rest.length ≤ sizeLine) :
    codeAny (model prog w) A (.builtin "Exception.__new__" ⟨.ref 59 :: rest, []⟩) R ⟨h, g, d, t, os⟩ := by
  have F := PySem.F.excBase_Exception
  have hends := F.ends
  have hcB : (Value.ref 59 :: bm59).contains (.type "Exception") = true := by decide
  have hcA : (Value.ref 59 :: bm59).contains (.type "AttributeError") = false := by decide
  have hcN : (Value.ref 59 :: bm59).contains (.type "NameError") = false := by decide
  refine codeAny_builtinAt F.entry ?_
  unfold Builtin.«BaseException.__new__»
  refine PySem.wpAt_bind ?_
  show PySem.wpAt _ _ _ (stack >>= _) _ _ _
  refine PySem.wpAt_bind (PySem.wpAt_stack fun p below => PySem.wpAt_of_wpAny ?_)
  wp_walk
  refine PySem.wpAt_of_wpAny ?_
  rw [F.owner]
  repeat (first | with_reducible refine wpAny_madeHere_exc F.canon hC ?_ | with_reducible refine wpAny_loadPart_at hC ?_ | (with_reducible refine wpAny_isSubtype_exc hC ?_; first | rw [hcB] | rw [hcA] | rw [hcN]) | wp_step)
  show R _ _
  rw [Heap.size_push]
  exact hq
theorem init59 (w : World) : findIn (hd.heap_39 w.params) (.ref 59) "__init__" = some (some (.ref 36)) := by k_is
theorem fn36 (w : World) : typeIn (hd.heap_39 w.params) (.ref 36) = some (.type "function") := by k_is
end
section
variable {w : World} {A : Around} {R : Result → Shared → Prop} {s : Shared} {E : Value → Shared → Prop} {h₀ : Heap} {L : Addr} {m : Str → Option Value} {news : List (Addr × Obj)}
theorem make59 {prog : Program} {rest : List Value} (F : Fr h₀ L s.heap m) (X₀ : (hd.heap_39 w.params).In h₀) (N : News h₀ L s.heap news) (hrest : rest.length ≤ sizeLine)
    (hq : ∀ e t h', Fr h₀ L h' m → News h₀ L h' ((e, fltO t none) :: (t, argO rest) :: news) → (∀ p ∈ news, p.1 < t) → @LT.lt Nat _ t e →
      codeAny (model prog w) (A.under (.builtin "type.__call__" ⟨.ref 59 :: rest, []⟩)) (.call (.ref 36) ⟨.ref e :: rest, []⟩) (InitBack e R) { s with heap := h' }) :
    codeAny (model prog w) A (.call (.ref 59) ⟨rest, []⟩) R s := by
  obtain ⟨h, g, d, t, os⟩ := s
  have X := X₀.keeps F.keep
  have hC := in59 X
  have f1 := tc_lookup
  have f2 := tc_bind (.ref 59)
  have hT : (⟨h, g, d, t, os⟩ : Shared).TypeIs (.ref 59) "type" := ⟨_, hC, rfl⟩
  refine codeAny_of_tree ?_
  show wpAny _ _ (callAny (.ref 59) _) _ _ _
  repeat (any_goals (first | assumption | with_reducible refine wpAny_loadPart_at hC ?_ | wp_step))
  refine ⟨rfl, ?_⟩
  refine codeAny_call_builtin_at (Code.quiet_builtin _ (by decide +kernel)) entry_typeCall (wpAny_check_type_call_sub hC ?_)
  have FB := PySem.F.excBase_Exception
  repeat (first | with_reducible refine wpAny_loadPart_at hC ?_ | with_reducible refine wpAny_madeBy_exc hC ?_ | wp_step)
  refine codeAny_call_builtin_code (Code.quiet_builtin _ FB.quiet) (check_new59 hC ?_)
  refine new59 hC ?_ hrest
  have F1 := F.push (argO rest)
  have F2 := F1.push (fltO h.objs.size none)
  have N2 := (N.push F (argO rest)).push F1 (fltO h.objs.size none)
  rw [Heap.size_push] at N2
  have k : ∀ b o, h.get? b = some o → ((h.push (argO rest)).push (fltO h.objs.size none)).get? b = some o := fun b o e => Heap.get?_push_of_some _ (Heap.get?_push_of_some _ e)
  have hx := (N2 _ (.head _)).1
  have hC2 := k _ _ hC
  have t1 : Looks (model prog w) ((h.push (argO rest)).push (fltO h.objs.size none)) (typeOf (.ref (h.objs.size + 1))) (.ref 59) := (Looks.ld hx).andThen .now
  have i1 := (looks_findIn (M := model prog w) X (init59 w)).keeps k
  have b1 := (bind_fn (M := model prog w) X (.ref (h.objs.size + 1)) (fn36 w)).keeps k
  have s1 : Looks (model prog w) ((h.push (argO rest)).push (fltO h.objs.size none)) (isSubtype (.ref 59) (.ref 59)) true := (looks_mroIn (M := model prog w) X (C := 59) (base := .ref 59) (r := true) (by k_is)).keeps k
  show wpAny _ (A.under (.builtin "type.__call__" ⟨.ref 59 :: rest, []⟩)) _ _ _ ⟨(h.push (argO rest)).push (fltO h.objs.size none), g, d, t, os⟩
  unfold isInstance callSpecial? specialOf
  repeat (first | with_reducible refine wpAny_call ?_ | lk)
  refine codeAny_mono (hq (h.objs.size + 1) h.objs.size _ F2 N2 (fun p hp => Heap.lt_size (N p hp).1) (Nat.lt_succ_self _)) fun r s' z => ?_
  rcases r with e | (v | _ | _ | _) <;> first | exact z | exact z.elim | skip
  obtain ⟨rfl, z⟩ := z
  exact wpAny_pure (wpAny_pure z)
end
section
variable {prog : Program} {w : World} {A : Around} {R : Result → Shared → Prop} {s : Shared} {E : Value → Shared → Prop} {h₀ : Heap} {L : Addr} {m : Str → Option Value} {news : List (Addr × Obj)} {Q : Value → Shared → Prop}
theorem exc_init {e t : Addr} {dd : Option Addr} {rest : List Value} (F : Fr h₀ L s.heap m) (X₀ : (hd.heap_39 w.params).In h₀) (N : News h₀ L s.heap ((e, fltO t dd) :: news)) (hne : ∀ p ∈ news, p.1 ≠ e) (hrest : rest.length ≤ sizeLine)
    (hq : ∀ t2 h', Fr h₀ L h' m → News h₀ L h' ((t2, argO rest) :: (e, fltO t2 dd) :: news) → (∀ p ∈ news, p.1 < t2) → @LT.lt Nat _ e t2 → Q .none { s with heap := h' }) :
    wpAny (model prog w) A (call (.builtin "Exception.__init__") (.ref e :: rest)) Q E s := by
  obtain ⟨h, g, d, tk, os⟩ := s
  have hC := in59 (X₀.keeps F.keep)
  have FB := PySem.F.excBase_Exception
  have he := (N _ (.head _)).1
  have hcB : (Value.ref 59 :: bm59).contains (.type "Exception") = true := by decide
  have hshort := FB.noStar
  have F1 := F.push (argO rest)
  have N1 := N.push F (argO rest)
  have hlt : @LT.lt Nat _ e h.objs.size := Heap.lt_size he
  obtain ⟨U1, U2⟩ := news_upd (pre := [(h.objs.size, argO rest)]) (o' := fltO h.objs.size dd) (f := Obj.mapFields (·.setIfInBounds 0 (.ref h.objs.size))) F1 N1 (fun p hp => by rw [List.mem_singleton.mp hp]; exact Nat.ne_of_gt hlt) hne rfl rfl
  have fin := hq h.objs.size _ U1 U2 (fun p hp => Heap.lt_size (N p (.tail _ hp)).1) hlt
  refine wpAny_call (codeAny_call_builtin FB.init.plain FB.initEntry ?_)
  simp only [checkBuiltinCall, FB.initKind, FB.initSplit, FB.initRow]
  repeat (first | with_reducible refine wpAny_loadPart_at he ?_ | with_reducible refine wpAny_loadPart_at hC ?_ | (with_reducible refine wpAny_isSubtype_exc hC ?_; rw [hcB]) | wp_step)
  refine wpAny_onRaise ?_
  rw [show ∀ (a b : String) (n : Nat), Bind.check ⟨.positional, "*", "Exception", .self, [⟨"args", .varPos, false⟩]⟩ a b n (List.map (fun x => x.fst) ({ pos := Value.ref e :: rest } : Args).kw) = pure () from
    fun a b n => check_star_args _ _ _ _ _ _]
  refine wpAny_pure ?_
  wp_walk
  exact fin
end
theorem refuse59 (self : Value) : refuseLoop self "__setattr__" (.ref 59 :: bm59) = pure () := by
  rw [refuseLoop_ref, refuseLoop_ref]
  kernel_rfl
theorem sa59 (w : World) : findIn (hd.heap_39 w.params) (.ref 59) "__setattr__" = some (some (.builtin "object.__setattr__")) := by k_is
theorem top59 (w : World) : mroIn (hd.heap_39 w.params) 59 (.type "object") = some true := by k_is
theorem cls59 (w : World) : ∃ cd, clsIn (hd.heap_39 w.params) 59 = some cd ∧ cd.hasDict = true ∧ cd.mro = .ref 59 :: bm59 := ⟨_, rfl, rfl, rfl⟩
section
variable {prog : Program} {w : World} {A : Around} {R : Result → Shared → Prop} {s : Shared} {E : Value → Shared → Prop} {h₀ : Heap} {L : Addr} {m : Str → Option Value} {news : List (Addr × Obj)}
theorem osa59 {e t : Addr} {dd : Option Addr} {name : Str} {tk : Tok} {v : Value} (X : (hd.heap_39 w.params).In s.heap) (he : s.heap.get? e = some (fltO t dd)) (ht : takerIn (hd.heap_39 w.params) 59 name = some none)
    (h : ∀ b, wpAny (model prog w) A.in1 (Builtin.ObjectAttr.storeInOwnDict (.ref e) (.ref 59) (.str name tk) name v b)
      (fun fin s' => match fin with | .done f => R (.ok f) s' | .again c' => c'.quiet = true ∧ codeAny (model prog w) A c' R s') (fun e s' => R (.error e) s') s) :
    codeAny (model prog w) A (.call (.builtin "object.__setattr__") ⟨[.ref e, .str name tk, v], []⟩) R s := by
  have SF := PySem.F.store_object
  have T : Looks (model prog w) s.heap (typeOf (.ref e)) (.ref 59) := (Looks.ld he).andThen .now
  have sub : Looks (model prog w) s.heap (isInstance (.ref e) (.type "object")) true := T.andThen (looks_mroIn X (top59 w))
  refine codeAny_call_builtin SF.slot.plain SF.entry (@check_slot (model prog w) _ _ s "object.__setattr__" "object" "__setattr__" (.ref e) [.str name tk, v] [] _ SF.kind SF.split sub (SF.args (.ref e) (.str name tk) v) ?_)
  obtain ⟨attr, ha, hr⟩ := Option.bind_eq_some_iff.mp ht
  obtain ⟨cd, hc, hd1, hd2⟩ := cls59 w
  have hm : Looks (model prog w) s.heap (mroOf (.ref 59)) (.ref 59 :: bm59) := hd2 ▸ (looks_clsIn X hc).andThen .now
  have L3 : Looks (model prog w) s.heap (Builtin.ObjectAttr.storeTaker? attr) none := by
    cases attr with
    | none => exact .now
    | some a =>
      obtain ⟨b, hb, hb2⟩ := Option.map_eq_some_iff.mp hr
      refine (looks_takesIn X hb).andThen ?_
      cases b with
      | false => exact .now
      | true => cases hb2
  rw [osa_eq, refuse_eq]
  refine wpAny_bind (wpAny_bind (T.here (wpAny_bind (hm.here ?_))))
  rw [refuse59]
  refine wpAny_pure (wpAny_bind (T.here (wpAny_bind ((looks_findIn X ha).here (wpAny_bind (L3.here ?_))))))
  exact h _
theorem store_D {B : Around} {D : Addr} {name : Str} {tk : Tok} {v : Value} {es es2 : List DictEntry} {n n2 : Nat} (hD : s.heap.get? D = some (dictOf es n)) (hr : (!es.any (·.key.isStr name) && es.any (·.refKey)) = false)
    (he : (putL name (PyData.keyHash w.params name) (.str name s.toks) v es, putN name es n) = (es2, n2))
    (hD3 : (s.heap.update D (Obj.putName name (PyData.keyHash w.params name) (.str name s.toks) v)).get? D = some (dictOf es2 n2)) (hz : es2.length ≤ 1000)
    (fin : R (.ok (.ret .none)) { s with heap := s.heap.update D (Obj.putName name (PyData.keyHash w.params name) (.str name s.toks) v), toks := s.toks + 1 }) :
    wpAny (model prog w) A (Builtin.ObjectAttr.storeInDict D (.str name tk) name v)
      (fun fin s' => match fin with | .done f => R (.ok f) s' | .again c' => c'.quiet = true ∧ codeAny (model prog w) B c' R s') (fun e s' => R (.error e) s') s := by
  refine wpAny_bind (wpAny_pure (wpAny_bind ?_))
  unfold nsSet
  refine wpAny_bind (wpAny_bind (wpAny_askSetting (wpAny_pure (wpAny_bind (wpAny_mkText (wpAny_bind (wpAny_loadPart hD ?_)))))))
  dsimp only
  rw [aRefKeyMayBeTheName_at, List.any_toArray, List.any_toArray, hr]
  refine wpAny_updatePart hD ?_
  refine wpAny_bind (wpAny_lookBehind hD3 (pastItsLine_dict (by rw [List.size_toArray, sizeLine_eq]; omega)) ?_)
  exact wpAny_pure fin
theorem set_old {e t D : Addr} {name : Str} {tk : Tok} {v : Value} {es es2 : List DictEntry} {n n2 : Nat} (F : Fr h₀ L s.heap m) (X₀ : (hd.heap_39 w.params).In h₀) (N : News h₀ L s.heap ((D, dictOf es n) :: (e, fltO t (some D)) :: news))
    (hne : ∀ p ∈ (e, fltO t (some D)) :: news, p.1 ≠ D) (ht : takerIn (hd.heap_39 w.params) 59 name = some none) (hr : (!es.any (·.key.isStr name) && es.any (·.refKey)) = false)
    (hp : (putL name (PyData.keyHash w.params name) (.str name s.toks) v es, putN name es n) = (es2, n2)) (hz : es2.length ≤ 1000)
    (hq : ∀ h', Fr h₀ L h' m → News h₀ L h' ((D, dictOf es2 n2) :: (e, fltO t (some D)) :: news) → R (.ok (.ret .none)) { s with heap := h', toks := s.toks + 1 }) :
    codeAny (model prog w) A (.call (.builtin "object.__setattr__") ⟨[.ref e, .str name tk, v], []⟩) R s := by
  have X := X₀.keeps F.keep
  have he := (N _ (.tail _ (.head _))).1
  refine osa59 X he ht fun b => ?_
  obtain ⟨cd, hc, hd1, hd2⟩ := cls59 w
  have hpp : Obj.putName name (PyData.keyHash w.params name) (.str name s.toks) v (dictOf es n) = dictOf es2 n2 := by
    obtain ⟨e1, e2⟩ := Prod.mk.inj hp
    rw [putName_dict, e1, e2]
  obtain ⟨F3, N3⟩ := news_upd (pre := []) (d := D) (o := dictOf es n) (o' := dictOf es2 n2) (f := Obj.putName name (PyData.keyHash w.params name) (.str name s.toks) v) F N (fun p hp => nomatch hp) hne hpp rfl
  refine wpAny_bind (wpAny_pure (wpAny_bind (wpAny_bind (wpAny_loadPart he (wpAny_bind ((looks_clsIn X hc).here ?_))))))
  rw [hd1]
  refine wpAny_pure (a := some D) ?_
  dsimp only
  exact store_D (prog := prog) (A := A.in1) (D := D) (tk := tk) (N _ (.head _)).1 hr hp (N3 _ (.head _)).1 hz (hq _ F3 N3)
theorem set_new {e t : Addr} {name : Str} {tk : Tok} {v : Value} (F : Fr h₀ L s.heap m) (X₀ : (hd.heap_39 w.params).In h₀) (N : News h₀ L s.heap ((e, fltO t none) :: news)) (hne : ∀ p ∈ news, p.1 ≠ e) (ht : takerIn (hd.heap_39 w.params) 59 name = some none)
    (hq : ∀ D h', Fr h₀ L h' m → News h₀ L h' ((D, dictOf [⟨PyData.keyHash w.params name, .str name s.toks, v⟩] 1) :: (e, fltO t (some D)) :: news) → (∀ p ∈ news, p.1 < D) → @LT.lt Nat _ e D → R (.ok (.ret .none)) { s with heap := h', toks := s.toks + 1 }) :
    codeAny (model prog w) A (.call (.builtin "object.__setattr__") ⟨[.ref e, .str name tk, v], []⟩) R s := by
  have X := X₀.keeps F.keep
  have he := (N _ (.head _)).1
  refine osa59 X he ht fun b => ?_
  obtain ⟨cd, hc, hd1, hd2⟩ := cls59 w
  have hlt : @LT.lt Nat _ e s.heap.objs.size := Heap.lt_size he
  have F1 := F.push (dictOf [] 0)
  have N1 := N.push F (dictOf [] 0)
  obtain ⟨F2, N2⟩ := news_upd (pre := [(s.heap.objs.size, dictOf [] 0)]) (o' := fltO t (some s.heap.objs.size)) (f := fun o => { o with dict := some s.heap.objs.size }) F1 N1 (fun p hp => by rw [List.mem_singleton.mp hp]; exact Nat.ne_of_gt hlt) hne rfl rfl
  have hpp : Obj.putName name (PyData.keyHash w.params name) (.str name s.toks) v (dictOf [] 0) = dictOf [⟨PyData.keyHash w.params name, .str name s.toks, v⟩] 1 := putName_dict _ _ _ _ _ _
  obtain ⟨F3, N3⟩ := news_upd (pre := []) (d := s.heap.objs.size) (o := dictOf [] 0) (o' := dictOf [⟨PyData.keyHash w.params name, .str name s.toks, v⟩] 1) (f := Obj.putName name (PyData.keyHash w.params name) (.str name s.toks) v) F2 N2 (fun p hp => nomatch hp)
    (fun p hp => by
      rcases List.mem_cons.mp hp with rfl | hp
      · exact Nat.ne_of_lt hlt
      · exact Nat.ne_of_lt (Heap.lt_size (N p (.tail _ hp)).1)) hpp rfl
  have fin := hq s.heap.objs.size _ F3 N3 (fun p hp => Heap.lt_size (N p (.tail _ hp)).1) hlt
  refine wpAny_bind (wpAny_pure (wpAny_bind (wpAny_bind (wpAny_loadPart he (wpAny_bind ((looks_clsIn X hc).here ?_))))))
  rw [hd1]
  show wpAny _ _ (alloc (dictOf [] 0) >>= fun d => update e (fun o => { o with dict := some d }) >>= fun _ => dictMade (.ref 59) e d) _ _ _
  refine wpAny_bind (wpAny_alloc (wpAny_bind (wpAny_update (N1 _ (.tail _ (.head _))).1 (wpAny_pure (a := some s.heap.objs.size) ?_))))
  have hN2 := (N2 _ (.head _)).1
  have hN3 := (N3 _ (.head _)).1
  generalize hh : ((s.heap.push (dictOf [] 0)).update e fun o => { o with dict := some s.heap.objs.size }) = h9 at *
  dsimp only
  exact store_D (prog := prog) (A := A.in1) (D := s.heap.objs.size) (tk := tk) (s := { s with heap := h9 }) (es := []) (n := 0) hN2 rfl rfl hN3 (Nat.le_of_ble_eq_true rfl) fin
end
section
variable {prog : Program} {w : World} {A : Around} {s : Shared} {E : Value → Shared → Prop} {h₀ : Heap} {L : Addr} {m : Str → Option Value} {news : List (Addr × Obj)}
theorem setattr59 {e t : Addr} {dd : Option Addr} {name : Str} {v : Value} {Q : Unit → Shared → Prop} (X : (hd.heap_39 w.params).In s.heap) (he : s.heap.get? e = some (fltO t dd))
    (h : codeAny (model prog w) A (.call (.builtin "object.__setattr__") ⟨[.ref e, .str name s.toks, v], []⟩) (fun r s' => match r with | .ok (.ret _) => Q () s' | .ok _ => False | .error e => E e s') { s with toks := s.toks + 1 }) :
    wpAny (model prog w) A (setAttr (.ref e) name v) Q E s := by
  have SF := PySem.F.store_object
  have T : Looks (model prog w) s.heap (typeOf (.ref e)) (.ref 59) := (Looks.ld he).andThen .now
  have L1 := looks_findIn (M := model prog w) X (sa59 w)
  unfold setAttr
  refine wpAny_bind (wpAny_mkText (wpAny_bind ?_))
  unfold callSpecial? specialOf
  obtain ⟨hp, g, d, tk, os⟩ := s
  refine wpAny_bind (wpAny_bind (T.at (L1.at (wpAny_holding ?_))))
  rw [SF.slot.bind]
  refine wpAny_bind (wpAny_pure (wpAny_bind (wpAny_call (codeAny_mono h fun r s' z => ?_))))
  rcases r with e | (v | _ | _ | _) <;> first | exact z | exact wpAny_pure (wpAny_pure z)
end
end
section
theorem ga59 (w : World) : findIn (hd.heap_39 w.params) (.ref 59) "__getattribute__" = some (some (.builtin "BaseException.__getattribute__")) := by k_is
theorem hook59 (w : World) : findIn (hd.heap_39 w.params) (.ref 59) "__getattr__" = some none := by k_is
theorem base59 (w : World) : mroIn (hd.heap_39 w.params) 59 (.type "BaseException") = some true := by k_is
theorem at59 (w : World) : findIn (hd.heap_39 w.params) (.ref 59) "at" = some none := by k_is
theorem find59 {w : World} {od : Obj} {v : Value} (h : lookIn "at" od = some (some v)) : findObj (hd.heap_39 w.params) 59 (some od) "at" = some (.value v) := by
  obtain ⟨cd, hc, hd1, hd2⟩ := cls59 w
  unfold findObj W.ownOf
  rw [hc, at59 w]
  simp only [Option.bind_some, hd1, if_true, h]
section
variable {prog : Program} {w : World} {A : Around} {s : Shared} {E : Value → Shared → Prop} {h₀ : Heap} {L : Addr} {m : Str → Option Value} {news : List (Addr × Obj)}
set_option maxHeartbeats 400000 in
theorem getattr59 {e : Addr} {oe od : Obj} {v : Value} {expr : Bool} {Q : Value → Shared → Prop} (X : (hd.heap_39 w.params).In s.heap) (I : InstAt s.heap e oe 59 (some od)) (hl : lookIn "at" od = some (some v)) (hh : handedIn v = true)
    (h : Q v { s with toks := s.toks + 1 }) : wpAny (model prog w) A (getAttr (.ref e) "at" expr) Q E s := by
  have FB := PySem.F.attrBase_Exception
  obtain ⟨hp, g, d, tk, os⟩ := s
  have L0 := I.type (M := model prog w)
  have L1 := looks_findIn (M := model prog w) X (ga59 w)
  have L2 := looks_findIn (M := model prog w) X (hook59 w)
  have L3 := looks_find (M := model prog w) X I (find59 hl)
  have L4 : Looks (model prog w) hp (isInstance (.ref e) (.type "BaseException")) true := L0.andThen (looks_mroIn X (base59 w))
  have hx0 : (expr && onTheHeap (Value.builtin "BaseException.__getattribute__")) = false := by cases expr <;> rfl
  have hx2 : (Value.builtin "BaseException.__getattribute__" == Value.builtin "object.__getattribute__") = false := by decide +kernel
  have hx1 : (onTheHeap (Value.ref 59) && Value.builtin "BaseException.__getattribute__" == Value.builtin "object.__getattribute__") = false := by rw [hx2]; rfl
  unfold getAttr getAttrBy
  refine wpAny_bind (wpAny_mkText (wpAny_holding (wpAny_bind (L0.at (wpAny_bind (L1.at ?_))))))
  dsimp only
  rw [hx1]
  show wpAny _ _ (getAttrByItsOwn _ _ _ _ _ _) _ _ _
  unfold getAttrByItsOwn
  refine wpAny_bind ?_
  show wpAny _ _ (typeLookup _ _) _ _ _
  refine L2.at (wpAny_bind ?_)
  unfold callGetattribute
  rw [hx0]
  show wpAny _ _ ((holding _ (boundAndCalled _ _ _)).attempt) _ _ _
  unfold boundAndCalled
  refine wpAny_attempt (wpAny_holding ?_)
  rw [FB.ga.bind]
  have hk : builtinKind "BaseException.__getattribute__" = some .slot := by decide +kernel
  have hsplit : splitId "BaseException.__getattribute__" = some ("BaseException", "__getattribute__") := by decide +kernel
  have hcode : codeAny (model prog w) A (.call (.builtin "BaseException.__getattribute__") ⟨[.ref e, .str "at" tk], []⟩) (fun r s' => r = .ok (.ret v) ∧ s' = ⟨hp, g, d, tk + 1, os⟩) ⟨hp, g, d, tk + 1, os⟩ := by
    refine codeAny_call_builtin FB.ga.plain PySem.F.entry_bexc_ga (@check_slot (model prog w) _ _ ⟨hp, g, d, tk + 1, os⟩ "BaseException.__getattribute__" "BaseException" "__getattribute__" (.ref e) [.str "at" tk] [] _ hk hsplit L4 (PySem.F.args_bexc_ga (.ref e) (.str "at" tk)) ?_)
    refine wpAny_bind (wpAny_pure (a := (Value.ref e, [Value.str "at" tk])) (wpAny_bind (wpAny_pure (a := ("at" : Str)) (wpAny_bind (L0.at (wpAny_bind (L3.at ?_)))))))
    exact wpAny_pure ⟨rfl, rfl⟩
  refine wpAny_bind (wpAny_pure (wpAny_call (codeAny_mono hcode fun r s' z => ?_)))
  obtain ⟨rfl, rfl⟩ := z
  show wpAny _ _ (handedOut v) _ _ _
  rw [handedOut_of hh]
  exact wpAny_pure h
end
end
section
/-- an object has this dict for its own -/
def DictAt (h : Heap) (e D : Addr) : Prop := ∃ o, h.get? e = some o ∧ o.dict = some D
theorem DictAt.kept {h h' : Heap} {e D : Addr} (x : DictAt h e D) (k : DKept h h') : DictAt h' e D := by
  obtain ⟨o, ho, hd⟩ := x
  obtain ⟨o', ho', hd'⟩ := k e o ho
  exact ⟨o', ho', hd'.trans hd⟩
section
variable {M : Model} {A : Around} {E : Value → Shared → Prop} {s' : Shared} {base g : Heap} {outer : List Env} {L a e t D : Addr} {m : Str → Option Value} {name : Str} {scope : Scope} {cd : Value} {Q : Unit → Shared → Prop} {news : List (Addr × Obj)} {vs : List Value} {dO : Obj}
theorem leave59 (K : Below A base outer g) (F : Fr g L s'.heap m) (N : News g L s'.heap ((D, dO) :: (e, fltO t (some D)) :: (t, argO vs) :: news)) (h1 : ∀ p ∈ news, p.1 < e) (h2 : @LT.lt Nat _ e t) (h3 : @LT.lt Nat _ t D)
    (hQ : ∀ h', RaisedS base g outer e (.ref 59) t vs ((D, dO) :: news) h' → DictAt h' e D → g.UpToSlots h' → Q () { s' with heap := h' }) (hk : scope.kind = .function) :
    wpAny M (A.deeper (envOf name scope L a cd)) (leaving (envOf name scope L a cd) (.ref e)) Q E s' := by
  have K' := K.push (name := name) (a := a) (cd := cd) F hk
  have hin : ∀ env ∈ (envOf name scope L a cd :: outer), ∀ b, env.frame = some b → b ∈ e :: t :: (envOf name scope L a cd :: outer).filterMap (·.frame) := fun env he b hb => .tail _ (.tail _ (List.mem_filterMap.mpr ⟨env, he, hb⟩))
  have he := N (e, fltO t (some D)) (.tail _ (.head _))
  have ht := N (t, argO vs) (.tail _ (.tail _ (.head _)))
  have off : ∀ q ∈ (D, dO) :: news, q.1 ∉ e :: t :: (envOf name scope L a cd :: outer).filterMap (·.frame) := by
    intro q hq hm
    have hqe : q.1 ≠ e := by
      rcases List.mem_cons.mp hq with rfl | hq
      · exact Nat.ne_of_gt (Nat.lt_trans h2 h3)
      · exact Nat.ne_of_lt (h1 q hq)
    have hqt : q.1 ≠ t := by
      rcases List.mem_cons.mp hq with rfl | hq
      · exact Nat.ne_of_gt h3
      · exact Nat.ne_of_lt (Nat.lt_trans (h1 q hq) h2)
    have hqN : q ∈ (D, dO) :: (e, fltO t (some D)) :: (t, argO vs) :: news := by
      rcases List.mem_cons.mp hq with rfl | hq
      · exact .head _
      · exact .tail _ (.tail _ (.tail _ hq))
    rcases List.mem_cons.mp hm with q1 | hm
    · exact hqe q1
    rcases List.mem_cons.mp hm with q1 | hm
    · exact hqt q1
    obtain ⟨env, henv, hf⟩ := List.mem_filterMap.mp hm
    rcases List.mem_cons.mp henv with rfl | henv
    · exact (N q hqN).2.1 (Option.some.inj hf).symm
    · obtain ⟨o, ho, _⟩ := (K.frames.mem (List.mem_filterMap.mpr ⟨env, henv, hf⟩)).2
      rw [(N q hqN).2.2] at ho; cases ho
  have st : base.StaysIn (hideAll s'.heap (e :: t :: (envOf name scope L a cd :: outer).filterMap (·.frame))) := fun b o q => by
    refine hideAll_get _ (K'.stays b o q) fun hm => ?_
    rcases List.mem_cons.mp hm with rfl | hm
    · rw [fresh_of_stays K.stays he.2.2] at q; cases q
    rcases List.mem_cons.mp hm with rfl | hm
    · rw [fresh_of_stays K.stays ht.2.2] at q; cases q
    rw [(K'.frames.mem hm).1] at q; cases q
  have sg : ∀ b o, g.get? b = some o → b ∉ outer.filterMap (·.frame) → (hideAll s'.heap (e :: t :: (envOf name scope L a cd :: outer).filterMap (·.frame))).get? b = some o := fun b o q nm => hideAll_get _ (F.keep b o q) fun hm => by
    rcases List.mem_cons.mp hm with rfl | hm
    · rw [he.2.2] at q; cases q
    rcases List.mem_cons.mp hm with rfl | hm
    · rw [ht.2.2] at q; cases q
    rcases kts_mem hm with z | z
    · rw [z, kts_self F] at q; cases q
    · exact nm z
  have hl : ∀ q ∈ (D, dO) :: news, (hideAll s'.heap (e :: t :: (envOf name scope L a cd :: outer).filterMap (·.frame))).get? q.1 = some q.2 ∧ g.get? q.1 = none ∧ base.get? q.1 = none := fun q hq => by
    have hqN : q ∈ (D, dO) :: (e, fltO t (some D)) :: (t, argO vs) :: news := by
      rcases List.mem_cons.mp hq with rfl | hq
      · exact .head _
      · exact .tail _ (.tail _ (.tail _ hq))
    exact ⟨hideAll_get _ (N q hqN).1 (off q hq), (N q hqN).2.2, fresh_of_stays K.stays (N q hqN).2.2⟩
  refine DSafe.any (dsafe_leaving _ _) (wpAny_leaving_firstW (base := hideAll s'.heap (e :: t :: (envOf name scope L a cd :: outer).filterMap (·.frame))) (a0 := .ref t) K'.stack (funFrames_hide K'.frames hin) rfl he.1 (fun b o q => of_hideAll _ q) (hideAll_none _ (.head _)) rfl rfl rfl fun h' hL hkept => ?_)
  obtain ⟨k1, ⟨x1, x2, k2⟩, k3, k4⟩ := hL
  refine hQ h' ⟨⟨_, st, sg, hl, ⟨k1, hideAll_none _ (.head _), k2, k3⟩, hideAll_none _ (.tail _ (.head _))⟩, Heap.TupAt.of_slots ⟨_, _, ht.1, rfl, rfl⟩ k4⟩ (DictAt.kept ⟨_, he.1, rfl⟩ hkept) ((Heap.UpToSlots.of_keeps F.keep).trans k4)
end
section
variable {prog : Program} {w : World} {A₀ : Around} {E : Value → Shared → Prop} {s' : Shared} {base g g₀ G : Heap} {outer : List Env} {L a e t D : Addr} {m : Str → Option Value} {name : Str} {scope : Scope} {cd : Value}
  {vs : List Value} {n : Str} {b₀ : Stmt} {suite : List Stmt} {pos np : Pos} {rest : List ExceptHandler} {Q : Flow → Shared → Prop} {news : List (Addr × Obj)} {p : Program} {loose : List Str} {mean : ExcName → Option Value} {mg mb : Str → Option Value} {x : Str}
theorem caught59 (R : RaisedS base G (envOf name scope L a cd :: outer) e (.ref 59) t vs news s'.heap) (F : Fr g L G m) (K : Below A₀ base outer g) (hsm : G.UpToSlots s'.heap) (hD : DictAt s'.heap e D) (XB : (hd.heap_39 w.params).In base) (TB : Top p loose mean mg mb base)
    (ex : nsIn (hd.heap_39 w.params) mainGlobals x = some (some (.ref 59)))
    (k : ∀ h' g' oe tk, KtsTurn (outer.filterMap (·.frame)) g g' → Fr g' L h' (fun y => if y = n then some (.ref e) else m y) → News g' L h' ((e, oe) :: news) → Below A₀ base outer g' → (hd.heap_39 w.params).In g' → Top p loose mean mg mb g' → oe.cls = .ref 59 → notCls oe = true → oe.dict = some D →
      wpAny (model prog w) ((A₀.deeper (envOf name scope L a cd)).mark (some (.ref e))) (execs (b₀ :: suite) (envOf name scope L a cd))
        (fun f s₄ => wpAny (model prog w) (A₀.deeper (envOf name scope L a cd)) (do bindName (envOf name scope L a cd) n .none; unbindBehindTheSuite (envOf name scope L a cd) n pos) (fun _ s₅ => Q f s₅) E s₄)
        (AsSuiteRaised (model prog w) ((A₀.deeper (envOf name scope L a cd)).mark (some (.ref e))) (envOf name scope L a cd) n pos (notedBy (model prog w) ((A₀.deeper (envOf name scope L a cd)).mark (some (.ref e))) (envOf name scope L a cd) (cameBackBy (model prog w) (A₀.deeper (envOf name scope L a cd)) (envOf name scope L a cd) E)))
        { s' with heap := h', toks := tk })
    (hk : scope.kind = .function) (hlo : (envOf name scope L a cd).kindOf n = some .local) (hx : (envOf name scope L a cd).kindOf x = some .globalImplicit) (hd : (x == ("__debug__" : Str)) = false) :
    wpAny (model prog w) (A₀.deeper (envOf name scope L a cd)) (noteFrame (.ref e) (envOf name scope L a cd))
      (fun _ s₂ => wpAny (model prog w) (A₀.deeper (envOf name scope L a cd)) (setFlight (.ref e) none) (fun _ s₃ =>
        wpAny (model prog w) (A₀.deeper (envOf name scope L a cd)) (handleBy (.ref e) (envOf name scope L a cd) (.ExceptHandler (some (.Name x np)) (some n) (b₀ :: suite) pos :: rest)) Q E s₃) E s₂) E s' := by
  obtain ⟨⟨B, hB, hBG, hl, hfl, hnew⟩, htup⟩ := R
  have hL : B.get? L = none := by
    obtain ⟨_, ⟨L', _, hf, hn', _⟩, _⟩ := hfl.2.2.1
    obtain rfl : L = L' := Option.some.inj hf
    exact hn'
  refine DSafe.any (dsafe_noteFrame _ _) (wpAny_looks_onW (Around.frames_deeper K.stack) rfl hfl fun h₄ hheld₄ hsm₄ kd₄ => ?_)
  refine DSafe.any (dsafe_setFlight _ _) (wpAny_landsW hheld₄ fun h₅ hheld hsm₅' kd₅ => ?_)
  have hsm₅ := hsm₄.trans hsm₅'
  obtain ⟨g₅, T₅, F₅, K₅⟩ := kts_ground K F hBG hheld.1 (hsm.trans hsm₅)
  have X₅ : (Mine.hd.heap_39 w.params).In g₅ := XB.keeps K₅.stays
  have P₅ : TopRead p loose mg mb g₅ := topRead_of (TB.keeps K₅.stays)
  obtain ⟨ob, hob, hobc⟩ := hheld.there
  have hC := in59 (X₅.keeps F₅.keep)
  refine wpAny_handleBy_cons (codeAny_handlers_test (name_K F₅ X₅ P₅ ex ?_ hk hx hd)) (by intro q; cases q)
  refine wpAny_excMatches_sub_self hC hob hobc (by decide) (codeAny_handlers_suite_as ?_)
  refine DSafe.any (dsafe_setFlight _ _) (lands_againW hheld fun h₆ hfl₆ hsm₆ kd₆ => ?_)
  obtain ⟨g₆, T₆, F₆, K₆⟩ := kts_ground K F hBG hfl₆.1 ((hsm.trans hsm₅).trans hsm₆)
  obtain ⟨oe, ws, hoe, hoec, hoed, hoe0⟩ := hfl₆.first
  have D6 := ((hD.kept kd₄).kept kd₅).kept kd₆
  obtain ⟨oe2, hoe2, hd2⟩ := D6
  have heq : oe2 = oe := Option.some.inj (hoe2.symm.trans hoe)
  rw [heq] at hd2
  have ne₆ : g₆.get? e = none := T₆.none_ _ (kts_fresh F hBG hfl₆.2.1 fun o ho m => by
    obtain ⟨_, o', ho', hnf⟩ := K.frames.mem m
    rw [ho] at ho'
    cases ho'
    obtain ⟨sl, hs⟩ := ((hsm.trans hsm₅).trans hsm₆) _ _ (F.keep _ _ ho) hnf
    rw [hoe] at hs
    cases hs
    exact hnf _ hoed)
  have N₆ : News g₆ L h₆ ((e, oe) :: news) := by
    intro q hq
    rcases List.mem_cons.mp hq with rfl | hq
    · refine ⟨hoe, fun z => ?_, ne₆⟩
      obtain ⟨oL, es, ep, hLo, hLd, _⟩ := F₆.ns
      have z' : e = L := z
      rw [← z', hoe] at hLo
      cases hLo
      rw [hoed] at hLd
      cases hLd
    · exact ⟨hfl₆.1 _ _ (hl q hq).1, (fun z => by have := (hl q hq).1; rw [z, hL] at this; cases this), T₆.none_ _ (kts_none F.keep (hl q hq).2.1)⟩
  refine stN F₆ N₆ (fun h₇ F₇ N₇ => ?_) hk hlo
  exact k h₇ g₆ oe _ T₆ F₇ N₇ K₆ (XB.keeps K₆.stays) (TB.keeps K₆.stays) hoec (by unfold notCls; rw [hoed]) hd2
end
/-- as `Call`, from the law's own frame -/
abbrev CallT (w : World) (mean : ExcName → Option Value) (mg mb : Str → Option Value) (f : Addr) (vs : List Value) (news : List (Addr × Obj)) (dep un : Nat)
    (Ret : (Value → List (Addr × Obj) → Prop → Prop) → Prop) : Prop :=
  ∀ (dp u : Nat) (gd : Option (List Code)) (cn : Str) (cs : Scope) (a : Addr) (ccd : Value) (cl : List (Str × Addr)) (A₀ : Around) (h₀ : Heap) (L : Addr) (m : Str → Option Value) (s : Shared) (Q E : Value → Shared → Prop),
    Below A₀ h₀ [] h₀ → Fr h₀ L s.heap m → (hd.heap_39 w.params).In h₀ → News h₀ L s.heap news → Top hd.view_39 (looseW hd.view_39 [Str.ofString "PostError", Str.ofString "line_spans", Str.ofString "_law_codes"]) mean mg mb h₀ → cs.kind = .function →
    dp + dep < recursionLimit → u + un < cLine →
    Ret (fun v news' P => ∀ h' tk', Fr h₀ L h' m → News h₀ L h' news' → P → Q v { s with heap := h', toks := tk' }) →
    wpAny (model PySem.Challenge.rw_no0362_01.row.prog w) (ktrTop dp u gd cn cs L a ccd cl []) (call (.ref f) vs) Q E s
section
variable {prog : Program} {w : World} {A₀ A : Around} {s : Shared} {base h₀ : Heap} {L : Addr} {m mg mb : Str → Option Value} {news : List (Addr × Obj)} {K : Frag} {p : Program} {loose : List Str} {mean : ExcName → Option Value} {env : Env}
    {R : Result → Shared → Prop} {name qual : Str} {params : Arguments} {body : List Stmt} {scope : Scope} {dV kV doc pm cdv ct oc : Value} {an od : Option Addr} {osl : Array (Option Value)} {f : Addr} {args : Args} {binds : List (Str × Value)}
/-- the law's frame calls a def that catches -/
theorem code_defT (B : Below A₀ base [] h₀) (F : Fr h₀ L s.heap m) (X₀ : K.In h₀) (N : News h₀ L s.heap news) (T : Top p loose mean mg mb h₀) (hA : A.frames = some [env]) (hf : env.frame = some L) (hke : env.scope.kind = .function)
    (ho : K.lookup f = some ⟨oc, od, .func (fnOf name qual params body scope dV kV doc pm an cdv ct), osl⟩) (hcd : codeIn K cdv qual = true) (hroom : A.depth < recursionLimit)
    (hbind : BindsTo s (fnOf name qual params body scope dV kV doc pm an cdv ct) args binds) (hloc : ∀ y ∈ binds, scope.names.lookup y.1 = some .local)
    (h : ∀ g L' h₁, Fr h₀ L g m → Fr g L' h₁ (fun y => binds.reverse.lookup y) → News g L' h₁ news → Below A base [env] g → K.In g → Top p loose mean mg mb g →
      wpAny (model prog w) (A.deeper (envOf qual scope L' f cdv)) (execs body (envOf qual scope L' f cdv))
        (fun fl s' => LeaveS0 [L] h₀ L m g R (match fl with | .ret v => v | _ => .none) s')
        (fun e s' => wpAny (model prog w) (A.deeper (envOf qual scope L' f cdv)) (leaving (envOf qual scope L' f cdv) e) (fun _ s'' => R (.error e) s'') (fun e' s'' => R (.error e') s'') s')
        { s with heap := h₁, toks := s.toks + binds.length })
    (hco : scope.isCoroutine = false) (hgen : scope.isGenerator = false) (hk : scope.kind = .function)
    (hcell : ∀ x ∈ scope.names, x.2 ≠ .cell) : codeAny (model prog w) A (.call (.ref f) args) R s := by
  have X := X₀.keeps F.keep
  obtain ⟨FG, BG, st, lv⟩ := groundX (R := R) B F N hA hf hke
  refine codeAny_call_def (fd := fnOf name qual params body scope dV kV doc pm an cdv ct) (body := body) (binds := binds) hroom (X _ _ ho) rfl (T.nolimit.keeps F.keep) (codeRec_of X hcd) rfl hbind hcell hloc (fun h₁ hns hk₁ => ?_) hco hgen hk
  refine wpAny_mono (h _ s.heap.objs.size h₁ FG ⟨hns, fun b o e => hk₁ b o (of_hideAll _ e), Nat.le_of_eq (hideAll_size _ _)⟩
    (fun p hp => ⟨hk₁ _ _ (N p hp).1, Nat.ne_of_lt (Heap.lt_size (N p hp).1), hideAll_none _ (List.mem_map_of_mem hp)⟩) BG (X₀.keeps st) (T.keeps st)) (fun fl s' hl => ?_) fun _ _ y => y
  obtain ⟨g', L', m', news', T', F', N', k⟩ := hl
  have nL₀ : h₀.get? L = none := kts_self F
  obtain ⟨oL, es, ep, hLg, hLd, hLr⟩ := FG.ns
  obtain ⟨sl, hs⟩ := T'.up hLg
  refine k ⟨⟨_, es, ep, F'.keep _ _ hs, hLd, hLr⟩, fun b o e => F'.keep b o (T'.other b o (st b o e) (fun q => by
    rw [List.mem_singleton.mp q, nL₀] at e
    cases e)), F.above⟩ fun p hp => ⟨(N' p hp).1, fun q => ?_, ?_⟩
  · have := (N' p hp).2.2
    rw [q, hs] at this
    cases this
  · cases q : h₀.get? p.1 with
    | none => rfl
    | some o =>
      obtain ⟨sl', hs'⟩ := T'.up (st _ _ q)
      have := (N' p hp).2.2
      rw [hs'] at this
      cases this
end
end
section
section
variable {prog : Program} {w : World} {A : Around} {E : Value → Shared → Prop} {s : Shared} {env : Env}
theorem codeS_forLoop {R : Result → Shared → Prop} {target : Expr} {it : Value} {body : List Stmt} (I : Nat → Shared → Prop)
    (turn : ∀ n s, I n s → wpAny (model prog w) A (pyNext it) (fun r s₁ => match r with
      | none => R (.ok .next) s₁
      | some v => wpAny (model prog w) A (assign target env v) (fun _ s₂ => wpS (model prog w) A (execs body env) (fun f s₃ => f = .next ∧ ∃ m, m < n ∧ I m s₃) (fun _ _ => False) s₂) (fun _ _ => False) s₁) (fun _ _ => False) s)
    (ht : ∀ v, letOwnedTupleGo target it v = pure () := by intro _; rfl) : ∀ (n : Nat) (s : Shared), I n s → codeS (model prog w) A (.forLoop target it body [] env) R s := by
  intro n
  induction n using Nat.strongRecOn with
  | ind n ih =>
    intro s hI
    refine codeS_tree rfl ?_
    rw [Around.under_of_weight rfl]
    show wpS _ A ((forTurn target it body [] env).onRaise _) _ _ s
    refine wpS_onRaise (wpS_mono (E := fun _ _ => False) ?_ (fun _ _ x => x) fun _ _ x => x.elim)
    simp only [forTurn]
    refine wpS_then (wpAny_standAt (wpS_then (wpAny_onRaise (wpAny_mono (turn n s hI) (fun r s₁ h₁ => ?_) fun _ _ x => x.elim))))
    cases r with
    | none => exact wpS_pure ⟨rfl, codeS_of (codeAny_block (wpAny_execs_nil h₁))⟩
    | some v =>
      simp only [ht v, pure_bind]
      refine wpS_then (wpAny_mono h₁ (fun _ s₂ h₂ => wpS_bind (wpS_mono h₂ (fun f s₃ h₃ => ?_) fun _ _ x => x)) fun _ _ x => x)
      obtain ⟨rfl, m, hm, hI'⟩ := h₃
      exact wpS_pure ⟨rfl, ih m hm s₃ hI'⟩
theorem forS {target iter : Expr} {body : List Stmt} {pos : Pos} {Q : Flow → Shared → Prop}
    (h : wpAny (model prog w) A (eval iter env) (fun x s₁ => wpAny (model prog w) A (pyIter x) (fun it s₂ =>
      codeS (model prog w) A (.forLoop target it body [] env) (fun r s' => match r with | .ok f => Q f s' | .error _ => False) s₂) E s₁) E s)
    (hs : ∀ x, foldedSetIterable iter env x = pure x := by intro _; rfl) : wpS (model prog w) A (exec (.For target iter body [] pos) env) Q E s := by
  rw [exec_For]
  refine wpS_then (wpAny_standAt (wpS_then (wpAny_mono h (fun x s₁ h₁ => wpS_then (wpAny_of_eq (hs x) (wpS_then (wpAny_standAt (wpS_then (wpAny_holding (wpAny_mono h₁ (fun it s₂ h₂ => ?_) fun _ _ e => e))))))) fun _ _ e => e)))
  exact wpS_runOwn (codeS_mono h₂ fun r s' hr => by cases r with | ok f => exact hr | error e => exact hr.elim)
theorem fr_off {h₀ h h' : Heap} {L I : Addr} {m : Str → Option Value} (F : Fr h₀ L h m) (hI : I ≠ L) (hn : h₀.get? I = none) (k : ∀ b o, b ∉ [I] → h.get? b = some o → h'.get? b = some o) : Fr h₀ L h' m :=
  ⟨F.ns.at' fun o e => k L o (by simpa using fun q => hI q.symm) e, fun b o e => k b o (by simp only [List.mem_singleton]; rintro rfl; rw [hn] at e; cases e) (F.keep b o e), F.above⟩
abbrev rangeO (a l : Int) : Obj := { cls := .type "range_iterator", dict := none, data := .fields #[rawInt a, rawInt l, rawInt 1], slots := #[] }
/-- a loop over range(n) that turns one bytearray and, beside the loop's name, one name alone -/
theorem rangeS {x z : Str} {px : Pos} {body : List Stmt} {h₀ : Heap} {n : Nat} {r D : Addr} {m₀ : Str → Option Value} {news : List (Addr × Obj)} {b₀ : Array UInt8} {t₀ u₀ v₀ : Tok} {R : Result → Shared → Prop} (J : Nat → Array UInt8 → Prop)
    (hh : A.handled = none) (hx : env.kindOf x = some .local) (hp : (env.scope.kind == .class || (env.scope.kind == .module && env.locals != env.globals)) = false)
    (hr : IsRange s.heap r 0 n 1 t₀ u₀ v₀) (hsmall : Builtin.Range.small 0 n 1 = true) (hn : Builtin.Range.rangeSize 0 n 1 = (n : Int))
    (F : Fr h₀ env.locals s.heap m₀) (N : News h₀ env.locals s.heap ((D, baO b₀) :: news)) (h0 : J 0 b₀)
    (turn : ∀ i u t b I oI h tk, i < n → J i b → (@Ne Nat I D) → (∀ p ∈ news, p.1 ≠ I) → Fr h₀ env.locals h (fun y => if y = x then some (.int i t) else if y = z then u else m₀ y) → News h₀ env.locals h ((I, oI) :: (D, baO b) :: news) →
      wpS (model prog w) A (execs body env) (fun f s₃ => f = .next ∧ ∃ h' tk' m' b', s₃ = { s with heap := h', toks := tk' } ∧ Fr h₀ env.locals h' m' ∧ News h₀ env.locals h' ((I, oI) :: (D, baO b') :: news) ∧ (∀ y, y ≠ x → y ≠ z → m' y = m₀ y) ∧ J (i + 1) b') (fun _ _ => False) { s with heap := h, toks := tk })
    (done : ∀ h tk a u b, J n b → Fr h₀ env.locals h (fun y => if y = x then a else if y = z then u else m₀ y) → News h₀ env.locals h ((D, baO b) :: news) → R (.ok .next) { s with heap := h, toks := tk }) :
    wpAny (model prog w) A (pyIter (.ref r)) (fun it s₂ => codeS (model prog w) A (.forLoop (.Name x px) it body [] env) R s₂) E s := by
  refine wpAny_pyIter_range hr hsmall ?_
  have W := Walks.range (prog := prog) (w := w) hh s.heap.objs.size 0 1 n
  have hIL : s.heap.objs.size ≠ env.locals := Nat.ne_of_gt F.ns.lt
  have hIn : h₀.get? s.heap.objs.size = none := Heap.get?_none_of_le (Nat.le_of_lt (Nat.lt_of_le_of_lt F.above F.ns.lt))
  have hI : ∀ p ∈ (D, baO b₀) :: news, p.1 ≠ s.heap.objs.size := fun p hp => Nat.ne_of_lt (Heap.lt_size (N p hp).1)
  have hID : D ≠ s.heap.objs.size := hI (D, baO b₀) (.head _)
  refine codeS_forLoop (fun k s' => ∃ i h tk m' b, k = n + 1 - i ∧ i ≤ n ∧ s' = { s with heap := h, toks := tk } ∧ J i b ∧ Fr h₀ env.locals h m' ∧ (∀ y, y ≠ x → y ≠ z → m' y = m₀ y) ∧ News h₀ env.locals h ((s.heap.objs.size, rangeO (0 + (i : Nat) * 1) ((n : Int) - (i : Nat))) :: (D, baO b) :: news)) ?_
    (ht := fun _ => rfl) (n + 1) _ ?_
  · rintro k s' ⟨i, h, tk, m', b, rfl, hi, rfl, hJ, F', hm, N'⟩
    rcases Nat.lt_or_eq_of_le hi with hlt | rfl
    · refine W.item i _ _ _ hlt (N' _ (.head _)).1 ?_
      rintro v h' tk' ⟨t, rfl⟩ hit hk
      have F₂ := fr_off F' hIL hIn hk
      have N₂ : News h₀ env.locals h' ((s.heap.objs.size, rangeO (0 + ((i + 1 : Nat) : Int) * 1) ((n : Int) - ((i + 1 : Nat) : Int))) :: (D, baO b) :: news) := by
        intro p hp
        rcases List.mem_cons.mp hp with rfl | hp
        · exact ⟨hit, hIL, hIn⟩
        · have z := N' p (.tail _ hp)
          refine ⟨hk _ _ ?_ z.1, z.2⟩
          simp only [List.mem_singleton]
          rcases List.mem_cons.mp hp with rfl | hp
          · exact hID
          · exact hI _ (.tail _ hp)
      refine wpAny_assign_Name (wpAny_storeName_local hx F₂.ns (fun h₃ hns hsb => ?_) hp)
      have F₃ := F₂.set hns hsb
      have N₃ : News h₀ env.locals h₃ ((s.heap.objs.size, rangeO (0 + ((i + 1 : Nat) : Int) * 1) ((n : Int) - ((i + 1 : Nat) : Int))) :: (D, baO b) :: news) := fun p hp => ⟨(hsb.2 _ (N₂ p hp).2.1).trans (N₂ p hp).1, (N₂ p hp).2⟩
      have e : (fun y => if y = x then some (Value.int (0 + (i : Int) * 1) t) else m' y) = fun y => if y = x then some (.int i t) else if y = z then m' z else m₀ y := by
        funext y
        by_cases hx : y = x
        · rw [if_pos hx, if_pos hx, Int.zero_add, Int.mul_one]
        · rw [if_neg hx, if_neg hx]
          by_cases hz : y = z
          · rw [if_pos hz, hz]
          · rw [if_neg hz, hm y hx hz]
      rw [e] at F₃
      refine wpS_mono (turn i (m' z) t b s.heap.objs.size _ h₃ _ hlt hJ (Ne.symm (hI _ (.head _))) (fun p hp => hI p (.tail _ hp)) F₃ N₃) (fun f s₃ h₃ => ?_) fun _ _ x => x
      obtain ⟨rfl, h4, tk4, m4, b4, rfl, F4, N4, hm4, hJ4⟩ := h₃
      exact ⟨rfl, n + 1 - (i + 1), by omega, i + 1, h4, tk4, m4, b4, rfl, hlt, rfl, hJ4, F4, hm4, N4⟩
    · refine W.done _ _ _ (N' _ (.head _)).1 fun h' tk' hk => ?_
      have F₂ := fr_off F' hIL hIn hk
      have e : m' = fun y => if y = x then m' x else if y = z then m' z else m₀ y := by
        funext y
        by_cases hx : y = x
        · rw [if_pos hx, hx]
        · rw [if_neg hx]
          by_cases hz : y = z
          · rw [if_pos hz, hz]
          · rw [if_neg hz, hm y hx hz]
      rw [e] at F₂
      refine done h' tk' (m' x) (m' z) b hJ F₂ fun p hp => ?_
      have z := N' p (.tail _ hp)
      refine ⟨hk _ _ ?_ z.1, z.2⟩
      simp only [List.mem_singleton]
      rcases List.mem_cons.mp hp with rfl | hp
      · exact hID
      · exact hI _ (.tail _ hp)
  · refine ⟨0, _, _, m₀, b₀, rfl, Nat.zero_le _, rfl, h0, F.push _, fun _ _ _ => rfl, fun p hp => ?_⟩
    rcases List.mem_cons.mp hp with rfl | hp
    · refine ⟨?_, hIL, hIn⟩
      rw [hn]
      simpa using Heap.get?_push_size _ rfl
    · exact ⟨Heap.get?_push_of_some _ (N p hp).1, (N p hp).2⟩
theorem ba_at {h₀ h : Heap} {L I D : Addr} {oI : Obj} {b : Array UInt8} {news : List (Addr × Obj)} (N : News h₀ L h ((I, oI) :: (D, baO b) :: news)) : h.get? D = some (baO b) := (N _ (.tail _ (.head _))).1
/-- `found = bytearray()` and its two methods, over the ledger -/
theorem newBA_K {h₀ : Heap} {L : Addr} {m : Str → Option Value} {news : List (Addr × Obj)} {Q : Value → Shared → Prop} (F : Fr h₀ L s.heap m) (N : News h₀ L s.heap news)
    (h : ∀ D h', Fr h₀ L h' m → News h₀ L h' ((D, baO #[]) :: news) → AllLt D news → Q (.ref D) { s with heap := h' }) : wpS (model prog w) A (call (.type "bytearray") []) Q E s := by
  refine BA.call_new fun h' hs hd => ?_
  have F₁ := F.push (baO #[])
  have N₁ := News.push F N (baO #[])
  have z := N₁ _ (.head _)
  have lt : ∀ p ∈ news, p.1 < s.heap.objs.size := fun p hp => Heap.lt_size (N p hp).1
  refine h _ h' (F₁.change hs z.2.1 z.2.2) (fun p hp => ?_) ?_
  · rcases List.mem_cons.mp hp with rfl | hp
    · exact ⟨hd, z.2⟩
    · exact ⟨(hs.2 _ (Nat.ne_of_lt (lt p hp))).trans (N₁ p (.tail _ hp)).1, (N₁ p (.tail _ hp)).2⟩
  · clear h N N₁ z hs
    induction news with
    | nil => trivial
    | cons p l ih => exact ⟨lt p (.head _), ih fun q hq => lt q (.tail _ hq)⟩
theorem appendBA_K {h₀ : Heap} {L : Addr} {m : Str → Option Value} {D I : Addr} {oI : Obj} {b : Array UInt8} {news : List (Addr × Obj)} {k : Int} {t : Tok} {Q : Value → Shared → Prop} (F : Fr h₀ L s.heap m) (N : News h₀ L s.heap ((I, oI) :: (D, baO b) :: news)) (hI : @Ne Nat I D) (hD : ∀ p ∈ news, p.1 ≠ D)
    (h0 : 0 ≤ k) (h1 : k < 256) (hz : b.size + 1 ≤ sizeLine) (h : ∀ h', Fr h₀ L h' m → News h₀ L h' ((I, oI) :: (D, baO (b.push k.toNat.toUInt8)) :: news) → Q .none { s with heap := h' }) : wpS (model prog w) A (call (.builtin "bytearray.append") [.ref D, .int k t]) Q E s := by
  have z := N (D, baO b) (.tail _ (.head _))
  refine BA.call_append z.1 h0 h1 hz fun h' hs hd => h h' (F.change hs z.2.1 z.2.2) ?_
  exact news_set (pre := [(I, oI)]) N (fun p hp => by rw [List.mem_singleton.mp hp]; exact hI) hD hs hd
theorem extendBA_K {h₀ : Heap} {L : Addr} {m : Str → Option Value} {D I : Addr} {oI : Obj} {b c : Array UInt8} {news : List (Addr × Obj)} {u : Tok} {Q : Value → Shared → Prop} (F : Fr h₀ L s.heap m) (N : News h₀ L s.heap ((I, oI) :: (D, baO b) :: news)) (hI : @Ne Nat I D) (hD : ∀ p ∈ news, p.1 ≠ D)
    (hz : b.size + c.size ≤ sizeLine) (h : ∀ h', Fr h₀ L h' m → News h₀ L h' ((I, oI) :: (D, baO (b ++ c)) :: news) → Q .none { s with heap := h' }) : wpS (model prog w) A (call (.builtin "bytearray.extend") [.ref D, .bytes c u]) Q E s := by
  have z := N (D, baO b) (.tail _ (.head _))
  refine BA.call_extend z.1 hz fun h' hs hd => h h' (F.change hs z.2.1 z.2.2) ?_
  exact news_set (pre := [(I, oI)]) N (fun p hp => by rw [List.mem_singleton.mp hp]; exact hI) hD hs hd
/-- a method of a built-in type is called with one argument -/
def MethS (prog : Program) (w : World) (A : Around) (env : Env) (name : Str) (pos : Pos) (e : Expr) (Q : Flow → Shared → Prop) (E : Value → Shared → Prop) (ov : Value) (s₁ : Shared) : Prop :=
  ∃ T id, PlainAttrs T ∧ Slot T name id ∧ typeOf (.builtin id) = pure (.type "method_descriptor") ∧ s₁.TypeIs ov T ∧ (∀ a, ov = .ref a → ∃ ob, s₁.heap.get? a = some ob ∧ ob.dict = none) ∧
    wpAny (model prog w) A (spliced (backTo pos (starEach [e] env))) (fun vs s₂ => wpS (model prog w) A (call (.builtin id) (ov :: vs)) (fun _ => Q .next) E s₂) E s₁
theorem MethS.ba {pos : Pos} {D : Addr} {b : Array UInt8} {name : Str} {id : String} {e : Expr} {Q : Flow → Shared → Prop} (slot : Slot "bytearray" name id) (ty : typeOf (.builtin id) = pure (.type "method_descriptor")) (ho : s.heap.get? D = some (baO b))
    (h : wpAny (model prog w) A (spliced (backTo pos (starEach [e] env))) (fun vs s₂ => wpS (model prog w) A (call (.builtin id) (.ref D :: vs)) (fun _ => Q .next) E s₂) E s) : MethS prog w A env name pos e Q E (.ref D) s :=
  ⟨"bytearray", id, ⟨⟨"bytearray.__getattribute__", by rw [typeLookup_type, builtinLookup_eq_fast]; kernel_rfl, by decide +kernel⟩, by rw [typeLookup_type, builtinLookup_eq_fast]; kernel_rfl⟩, slot, ty, BA.typeIs ho, fun a e => by cases e; exact ⟨_, ho, rfl⟩, h⟩
theorem methS {o e : Expr} {name : Str} {apos pos epos : Pos} {Q : Flow → Shared → Prop}
    (h : wpAny (model prog w) A (eval o env) (fun ov s₁ => MethS prog w A env name pos e Q E ov s₁) E s)
    (hbase : attributeBase o name env (eval o env) = eval o env) (hline : (apos.endLine == pos.line) = true) (htrees : backTo pos (starEach [e] env) = [(false, eval e env)])
    (hi : interactive env = false := by rfl) (hs : swapsWith (.Call (.Attribute o name apos) [e] [] pos) none epos.line env = pure false := by rfl) :
    wpS (model prog w) A (exec (.Expr (.Call (.Attribute o name apos) [e] [] pos) epos) env) Q E s := by
  rw [exec_Expr env _ epos hi hs]
  refine wpS_then (wpAny_standAt (wpS_bind ?_))
  rw [arm_eval_Call, hbase, htrees]
  refine wpS_then (wpAny_mono h (fun ov s₁ h₁ => wpS_then (wpAny_standAt ?_)) fun _ _ x => x)
  obtain ⟨T, id, pa, slot, hty, hT, hd, hc⟩ := h₁
  rw [htrees] at hc
  have hform : methodCallForm ([e].length + ([] : List Keyword).length) [(false, eval e env)] (backToKw pos (keywordEach [] env)) = true := rfl
  have hpos : methodCallPos true o env apos pos = pure pos := by unfold methodCallPos; simp [hline]
  unfold methodCall
  rw [hform]
  refine wpS_then (wpAny_holding (getMethod_builtin hT pa slot hty hd ?_))
  refine wpS_then (wpAny_of_eq hpos ?_)
  refine callWithS (P := fun _ => True) (first := [ov]) rfl (fun _ _ => ⟨.machine, .inr (.inl rfl), .now⟩) (Calls.evalArgs_plain (wpAny_mono hc (fun vs s₂ h₂ => ⟨trivial, ?_⟩) fun _ _ x => x))
  exact wpS_mono h₂ (fun v s₃ h₃ => wpS_of (wpAny_dropValue h₃)) fun _ _ x => x
/-- bytes(found) -/
theorem new_bytes {D : Addr} {b : Array UInt8} {Q : Value → Shared → Prop} (ho : s.heap.get? D = some (baO b)) (hz : b.size ≤ sizeLine) (h : ∀ t, Q (.bytes b t) { s with toks := s.toks + 1 }) :
    codeAny (model prog w) A (.call (.builtin "bytes.__new__") ⟨[.type "bytes", .ref D], []⟩) (wants Q E) s := by
  refine codeAny_of_tree ?_
  show wpAny _ A.in1 (do checkBuiltinCall "bytes.__new__" ⟨[.type "bytes", .ref D], []⟩; again (.builtin "bytes.__new__" ⟨[.type "bytes", .ref D], []⟩)) _ _ s
  refine wpAny_bind (wpAny_of_eq (F.bm_newCall _) (wpAny_pure ⟨plainId_quiet F.bm_plain _, codeAny_builtin F.bm_entry ?_⟩))
  rw [Around.under_plainId F.bm_plain _]
  have hT := BA.typeIs ho
  unfold Builtin.«bytes.__new__»
  refine wpAny_bind (wpAny_of_eq (a := true) rfl ?_)
  refine bm_if_false rfl ?_
  refine wpAny_bind (wpAny_of_eq F.bm_sub ?_)
  refine bm_if_false rfl ?_
  refine wpAny_bind (wpAny_of_eq (F.bm_bind _) ?_)
  refine wpAny_bind (wpAny_of_eq (a := ()) rfl ?_)
  refine wpAny_bind (wpAny_of_eq (a := ()) rfl ?_)
  refine bm_if_false rfl ?_
  refine wpAny_bind (wpAny_specialOf hT BA.noBytes ?_)
  refine wpAny_bind (wpAny_bind (BA.noStr ho (wpAny_pure ?_)))
  refine bm_if_false rfl ?_
  refine wpAny_bind (wpAny_specialOf hT BA.noIndex ?_)
  refine bm_if_true rfl ?_
  show wpAny _ _ (Builtin.Bytes.buffer? "bytes.__new__" (.ref D) true >>= _) _ _ _
  refine wpAny_bind ?_
  unfold Builtin.Bytes.buffer?
  refine wpAny_bind (wpAny_specialOf hT BA.look_buffer ?_)
  refine wpAny_bind ?_
  unfold Builtin.Bytes.slotIsOwn
  refine wpAny_bind (wpAny_specialOf hT BA.look_buffer ?_)
  dsimp only
  rw [if_neg (by decide +kernel)]
  have e : "bytearray.__buffer__".dropRight ("__buffer__".length + 1) = "bytearray" := by decide +kernel
  rw [e]
  refine wpAny_isInstance hT BA.sub_self ?_
  refine bm_if_false rfl ?_
  refine wpAny_bind (wpAny_specialOf hT BA.look_buffer ?_)
  refine wpAny_bind (BA.ownRelease_ ho ?_)
  refine bm_if_false rfl ?_
  refine wpAny_bind (BA.payload_ ho ?_)
  refine wpAny_pure ?_
  refine wpAny_bind (wpAny_rule ?_)
  refine wpAny_bind (wpAny_mkBytes ?_ hz)
  show wpAny _ _ (if (Value.type "bytes" == Value.type "bytes") = true then _ else _) _ _ _
  refine bm_if_true (by decide) ?_
  first
    | exact wpAny_pure (h _)
    | exact wpAny_bind (wpAny_pure (wpAny_pure (h _)))
theorem call_bytes_ba {D : Addr} {b : Array UInt8} {Q : Value → Shared → Prop} (ho : s.heap.get? D = some (baO b)) (hz : b.size ≤ sizeLine) (h : ∀ t, Q (.bytes b t) { s with toks := s.toks + 1 }) : wpAny (model prog w) A (call (.type "bytes") [.ref D]) Q E s := by
  refine callType_codes (Q₁ := fun obj s₁ => s₁.TypeIs obj "bytes" ∧ Q obj s₁) F.bm_called (F.bm_typeCall _) F.entry_object_init
    (new_bytes ho hz fun t => ⟨PySem.W.typeIs_bytes _ _ _, h t⟩) fun obj s₁ h₁ => ?_
  exact ⟨h₁.1, F.args_object_init_2 obj _, object_init_meets F.bm_called.init.lookup F.bm_called.made (by decide) prog w A.in1 _ s₁ ⟨h₁.1, rfl, h₁.2⟩⟩
end
end
section
theorem w_byt_0 : True := by
  k_with_none
  (k_with "enter" => (first
      | cell_enter
      | walk_at "enter S"
      | (refine' code_defC (by k_asm) (by k_asm) (by k_asm) (by k_asm) (by k_asm) (by exact rfl) (by exact rfl) (by first | assumption | exact rfl) (by k_is) (by k_is) (by ktr_room) (by first | exact BindsTo.of_eq rfl | exact binds_K (by k_in) rfl (by k_is) rfl rfl rfl) (by exact rfl) (by decide +kernel) ?_ (by exact rfl) (by exact rfl) (by exact rfl); k_whole; intro _ _ _ _ _ _ _ N' Y' B' _ _ l1; (try k_lt l1); k_cells Y'; (try simp only [List.cons_append, List.nil_append] at N'); (try dsimp only); (try k_lift B'); (try k_fold))))
  (k_with "call ref" => ((k_here; k_dflt (first
      | (refine' call_cls0 (by k_asm) (by k_asm) (by k_asm) (by k_is) (by k_is) ?_; k_whole; intro _ _ _ _ _ l1 l2; (try k_lt l1); (try k_lt2 l2); (try k_sweep))
      | (refine' call_cls (by k_asm) (by k_asm) (by k_asm) (by k_is) (by k_is) (by k_is) ?_; k_whole; intro _ _ _ _ _ l1 l2; (try k_lt l1); (try k_lt2 l2); (try k_sweep); walk_at "enter")
      | (refine wpAny_call ?_; walk_at "enter")))))
  (k_with "halt" => ((with_reducible show LCg.CompSrc _ _ _ _ _ _ _ _ _ _ _ _ _ _)))
  (k_with "halt" => ((with_reducible show wpAny _ _ (exec (Stmt.While _ _ _ _) _) _ _ _)))
  (k_with "halt" => ((with_reducible show wpAny _ _ (pyIter _) (fun it s₂ => LoopAtV _ _ _ _ _ _ _ _ _ it s₂) _ _)))
  (k_with "go" => (repeat' ((fail_if_success (walk_at "halt")); first | (k_unfold; (try dsimp only)) | walk1 | (dsimp only; walk1) | (leave1; walk_say "STEP leave1"; (try dsimp only)) | fail "no step")))
  trivial
namespace By
open Builtin
section
variable {prog : Program} {w : World} {A : Around} {E : Value → Shared → Prop} {s : Shared} {b c : Array UInt8} {ks ws : List Int} {t u : Tok} {k : Int}
theorem gives_in (h0 : 0 ≤ k) (h1 : k < 256) : Gives («bytes.__contains__» ⟨[.bytes b t, .int k u], []⟩) (.val (.bool (b.contains k.toNat.toUInt8))) := by
  refine .of_wp fun M A E s Q hq => ?_
  show wpAny M A (Bytes.containsIn "bytes.__contains__" (.bytes b t) (.int k u) >>= fun r => _) _ E s
  have f1 : Bytes.buffer? "bytes.__contains__" (.bytes b t) = pure (some b) := KBy.buffer_eq
  have f2 : (decide (k < 0) || decide (k ≥ 256)) = false := by simp; omega
  have f3 : (asIndex (.int k u)).attempt = pure (.ok k) := rfl
  have hq' : ∃ v, Fin.done (Flow.ret (Value.bool (b.contains k.toNat.toUInt8))) = Fin.done (Flow.ret v) ∧ Q v s := ⟨_, rfl, hq⟩
  refine wpAny_bind ?_
  unfold Bytes.containsIn
  refine wpAny_bind (wpAny_of_eq f3 (wpAny_bind (wpAny_of_eq f1 ?_)))
  show wpAny M A (if (decide (k < 0) || decide (k ≥ 256)) = true then _ else _) _ E s
  rw [if_neg (by rw [f2]; exact Bool.false_ne_true)]
  exact wpAny_pure (wpAny_pure hq')
theorem byte_in (h0 : 0 ≤ k) (h1 : k < 256) (hb : KBw.bInts b = ks) : b.contains k.toNat.toUInt8 = decide (k ∈ ks) := by
  rw [Bool.eq_iff_iff, Array.contains_iff_mem, decide_eq_true_iff, ← hb, KBw.bInts, List.mem_map, ← Array.mem_toList_iff]
  constructor
  · intro h
    exact ⟨_, h, byte_back h0 h1⟩
  · rintro ⟨x, hx, rfl⟩
    rw [Int.toNat_natCast, show x.toNat.toUInt8 = x from UInt8.ofNat_toNat]
    exact hx
theorem in_bytes {Q : Value → Shared → Prop} (hb : KBw.bInts b = ks) (h0 : 0 ≤ k) (h1 : k < 256) (h : Q (.bool (decide (k ∈ ks))) s) : wpAny (model prog w) A (compareOp .In (.int k u) (.bytes b t)) Q E s :=
  in_gives (typeIs_bytes _ _ _) FB.slot_bytes_contains FB.entry_bytes_contains (FB.args_bytes_contains_2 _ _) (gives_in h0 h1) (by rw [byte_in h0 h1 hb]; exact h)
theorem notin_bytes {Q : Value → Shared → Prop} (hb : KBw.bInts b = ks) (h0 : 0 ≤ k) (h1 : k < 256) (h : Q (.bool (!decide (k ∈ ks))) s) : wpAny (model prog w) A (compareOp .NotIn (.int k u) (.bytes b t)) Q E s :=
  notIn_gives (typeIs_bytes _ _ _) FB.slot_bytes_contains FB.entry_bytes_contains (FB.args_bytes_contains_2 _ _) (gives_in h0 h1) (by rw [byte_in h0 h1 hb]; exact h)
end
end By
theorem w_byt_1 : True := by
  (k_with "compareOp In int bytes" => ((k_here; (with_reducible show wpAny _ _ (compareOp CmpOp.In (Value.int _ _) (Value.bytes _ _)) _ _ _); k_dflt (refine By.in_bytes (by kba_ints) (by omega) (by omega) ?_))))
  (k_with "compareOp NotIn int bytes" => ((k_here; (with_reducible show wpAny _ _ (compareOp CmpOp.NotIn (Value.int _ _) (Value.bytes _ _)) _ _ _); k_dflt (refine By.notin_bytes (by kba_ints) (by omega) (by omega) ?_))))
  trivial
end
section
theorem w_find_0 : True := by
  k_with_none
  (k_with "enter" => (first
      | cell_enter
      | walk_at "enter S"
      | (refine' code_defC (by k_asm) (by k_asm) (by k_asm) (by k_asm) (by k_asm) (by exact rfl) (by exact rfl) (by first | assumption | exact rfl) (by k_is) (by k_is) (by ktr_room) (by first | exact BindsTo.of_eq rfl | exact binds_K (by k_in) rfl (by k_is) rfl rfl rfl) (by exact rfl) (by decide +kernel) ?_ (by exact rfl) (by exact rfl) (by exact rfl); k_whole; intro _ _ _ _ _ _ _ N' Y' B' _ _ l1; (try k_lt l1); k_cells Y'; (try simp only [List.cons_append, List.nil_append] at N'); (try dsimp only); (try k_lift B'); (try k_fold))))
  (k_with "call ref" => ((k_here; k_dflt (first
      | (refine' call_cls0 (by k_asm) (by k_asm) (by k_asm) (by k_is) (by k_is) ?_; k_whole; intro _ _ _ _ _ l1 l2; (try k_lt l1); (try k_lt2 l2); (try k_sweep))
      | (refine' call_cls (by k_asm) (by k_asm) (by k_asm) (by k_is) (by k_is) (by k_is) ?_; k_whole; intro _ _ _ _ _ l1 l2; (try k_lt l1); (try k_lt2 l2); (try k_sweep); walk_at "enter")
      | (refine wpAny_call ?_; walk_at "enter")))))
  (k_with "halt" => ((with_reducible show LCg.CompSrc _ _ _ _ _ _ _ _ _ _ _ _ _ _)))
  (k_with "halt" => ((with_reducible show wpAny _ _ (exec (Stmt.While _ _ _ _) _) _ _ _)))
  (k_with "halt" => ((with_reducible show wpAny _ _ (pyIter _) (fun it s₂ => LoopAtV _ _ _ _ _ _ _ _ _ it s₂) _ _)))
  (k_with "go" => (repeat' ((fail_if_success (walk_at "halt")); first | (k_unfold; (try dsimp only)) | walk1 | (dsimp only; walk1) | (leave1; walk_say "STEP leave1"; (try dsimp only)) | fail "no step")))
  (k_with "compareOp In int bytes" => ((k_here; (with_reducible show wpAny _ _ (compareOp CmpOp.In (Value.int _ _) (Value.bytes _ _)) _ _ _); k_dflt (refine By.in_bytes (by kba_ints) (by omega) (by omega) ?_))))
  (k_with "compareOp NotIn int bytes" => ((k_here; (with_reducible show wpAny _ _ (compareOp CmpOp.NotIn (Value.int _ _) (Value.bytes _ _)) _ _ _); k_dflt (refine By.notin_bytes (by kba_ints) (by omega) (by omega) ?_))))
  trivial
/-- the first place where ws stands in l -/
def occ (l ws : List Int) : Option Nat := (List.range (l.length + 1 - ws.length)).find? fun j => decide ((l.drop j).take ws.length = ws)
def occV (l ws : List Int) (o : Int) : Int := match occ l ws with | some j => o + j | none => -1
namespace By
open Builtin
set_option maxRecDepth 100000
theorem slot_bytes_find : Slot "bytes" "find" "bytes.find" :=
  .of (owner := "bytes") (n := "find") (by rw [typeLookup_type, builtinLookup_eq_fast]; kernel_rfl) (by decide +kernel) (by decide +kernel) (by decide +kernel)
    (by first | exact .inl (by decide +kernel) | exact .inr (by decide +kernel)) (by rw [isSubtype_type]; kernel_rfl)
theorem type_bytes_find : typeOf (.builtin "bytes.find") = pure (.type "method_descriptor") := by show builtinType _ = _; rw [builtinType_eq_fast]; kernel_rfl
theorem entry_bytes_find : entryFor table "bytes.find" = some Builtin.«bytes.find» := entryFor_of_tree (by kernel_rfl)
theorem args_bytes_find_2 (a b : Value) : argsOk "bytes.find" ⟨[a, b], []⟩ := by
  unfold argsOk; rw [signature?_of (id := "bytes.find") (n := ['d', 'n', 'i', 'f']) (o := ['s', 'e', 't', 'y', 'b']) (by kernel_rfl) FB.owner_bytes]; kernel_rfl
theorem args_bytes_find_4 (a b c d : Value) : argsOk "bytes.find" ⟨[a, b, c, d], []⟩ := by
  unfold argsOk; rw [signature?_of (id := "bytes.find") (n := ['d', 'n', 'i', 'f']) (o := ['s', 'e', 't', 'y', 'b']) (by kernel_rfl) FB.owner_bytes]; kernel_rfl
section
variable {prog : Program} {w : World} {A : Around} {E : Value → Shared → Prop} {s : Shared} {b c : Array UInt8} {ks ws : List Int} {t u : Tok} {lo hi : Int} {tl th : Tok}
def findRaw (b c : Array UInt8) (lo hi : Option Int) : Option Nat :=
  (if (Bytes.window b.size lo hi).2 - (Bytes.window b.size lo hi).1 < c.size then none else some ((Bytes.window b.size lo hi).1.toNat, (Bytes.window b.size lo hi).2.toNat)).bind fun x => Bytes.find? b c x.1 x.2
def findOf (b c : Array UInt8) (lo hi : Option Int) : Int := match findRaw b c lo hi with | some i => (i : Int) | none => -1
theorem gives_tail {M : Model} {A : Around} {E : Value → Shared → Prop} {s : Shared} {Q : Value → Shared → Prop} {o : Option Nat} {x : Int} (e : (match o with | some i => (i : Int) | none => -1) = x) (h : (Made.int x).post Q s) :
    wpAny M A (match o with | some i => retInt i | none => do rule "bytes.find.not-found"; if false = true then raiseError "ValueError" "subsection not found" else retInt (-1)) (fun fin s' => ∃ v, fin = .done (.ret v) ∧ Q v s') E s := by
  subst e
  cases o with
  | some i => exact wpAny_bind (wpAny_mkInt (wpAny_pure ⟨_, rfl, h⟩))
  | none => exact wpAny_bind (wpAny_rule (wpAny_bind (wpAny_mkInt (wpAny_pure ⟨_, rfl, h⟩))))
theorem gives_find2 : Gives («bytes.find» ⟨[.bytes b t, .bytes c u], []⟩) (.int (findOf b c none none)) := by
  refine .of_wp fun M A E s Q hq => ?_
  show wpAny M A (Bytes.searchArgs .bytes "find" ⟨[.bytes b t, .bytes c u], []⟩ >>= fun r => _) _ E s
  refine wpAny_bind ?_
  unfold Bytes.searchArgs
  refine wpAny_bind (wpAny_of_eq (a := (.bytes b t, [.bytes c u])) rfl ?_)
  refine wpAny_bind (wpAny_of_eq (a := none) rfl ?_)
  refine wpAny_bind (wpAny_of_eq (a := none) rfl ?_)
  refine wpAny_bind (wpAny_of_eq KBy.buffer_eq ?_)
  refine wpAny_bind (wpAny_pure ?_)
  refine wpAny_bind (wpAny_of_eq (a := b) rfl ?_)
  refine wpAny_pure ?_
  exact gives_tail rfl hq
theorem bound_int {M : Model} {A : Around} {E : Value → Shared → Prop} {s : Shared} {Q : Option Int → Shared → Prop} (h : Q (some lo) s) : wpAny M A (Bytes.bound? (some (.int lo tl))) Q E s := by
  unfold Bytes.bound?
  refine wpAny_bind (wpAny_specialOf (typeIs_int s lo tl) F.slot_int_index.lookup ?_)
  exact wpAny_bind (wpAny_of_eq (a := lo) rfl (wpAny_pure h))
theorem gives_find4 : Gives («bytes.find» ⟨[.bytes b t, .bytes c u, .int lo tl, .int hi th], []⟩) (.int (findOf b c (some lo) (some hi))) := by
  refine .of_wp fun M A E s Q hq => ?_
  show wpAny M A (Bytes.searchArgs .bytes "find" ⟨[.bytes b t, .bytes c u, .int lo tl, .int hi th], []⟩ >>= fun r => _) _ E s
  refine wpAny_bind ?_
  unfold Bytes.searchArgs
  refine wpAny_bind (wpAny_of_eq (a := (.bytes b t, [.bytes c u, .int lo tl, .int hi th])) rfl ?_)
  refine wpAny_bind (bound_int ?_)
  refine wpAny_bind (bound_int ?_)
  refine wpAny_bind (wpAny_of_eq KBy.buffer_eq ?_)
  refine wpAny_bind (wpAny_pure ?_)
  refine wpAny_bind (wpAny_of_eq (a := b) rfl ?_)
  refine wpAny_pure ?_
  exact gives_tail rfl hq
end
end By
theorem bInts_inj {b c : Array UInt8} : (b == c) = decide (KBw.bInts b = KBw.bInts c) := by
  rw [← bytes_eqb, Bool.eq_iff_iff, beq_iff_eq, beq_iff_eq, Array.toList_inj]
theorem bInts_ext (b : Array UInt8) (i n : Nat) : KBw.bInts (b.extract i (i + n)) = ((KBw.bInts b).drop i).take n := by
  unfold KBw.bInts
  rw [Array.toList_extract, List.extract_eq_take_drop, Nat.add_sub_cancel_left, List.map_take, List.map_drop]
theorem find?_congr' {α : Type} {p q : α → Bool} : ∀ {l : List α}, (∀ x ∈ l, p x = q x) → l.find? p = l.find? q
  | [], _ => rfl
  | a :: l, h => by
    rw [List.find?_cons, List.find?_cons, h a List.mem_cons_self, find?_congr' fun x hx => h x (List.mem_cons_of_mem _ hx)]
theorem find_occ {b c : Array UInt8} {ks ws : List Int} {lo hi : Nat} (hb : KBw.bInts b = ks) (hc : KBw.bInts c = ws) (h1 : lo ≤ hi) (h2 : hi ≤ ks.length) :
    Builtin.Bytes.find? b c lo hi = (occ (sg ks lo hi) ws).map (· + lo) := by
  have hl := sg_len (ks := ks) (i := lo) (e := hi) (by omega) (by omega) (by omega)
  have hcs : c.size = ws.length := by rw [← hc, KBw.ints_length]
  unfold Builtin.Bytes.find? occ
  rw [List.find?_map, hcs, show (sg ks lo hi).length + 1 - ws.length = hi + 1 - (lo + ws.length) by omega]
  congr 1
  refine find?_congr' fun j hj => ?_
  have hj := List.mem_range.mp hj
  show (b.extract (j + lo) (j + lo + ws.length) == c) = _
  rw [bInts_inj, bInts_ext, hb, hc, decide_eq_decide, sg]
  simp only [Int.toNat_natCast]
  rw [List.drop_drop, List.drop_take, List.take_take, Nat.min_eq_left (by omega), Nat.add_comm lo j]
theorem occ_short {l ws : List Int} (h : l.length < ws.length) : occ l ws = none := by
  rw [occ, show l.length + 1 - ws.length = 0 by omega]; rfl
theorem findOf_occ {b c : Array UInt8} {ks ws : List Int} {lo hi : Int} (hb : KBw.bInts b = ks) (hc : KBw.bInts c = ws) (h0 : 0 ≤ lo) (h1 : lo ≤ hi) (h2 : hi ≤ ks.length) :
    By.findOf b c (some lo) (some hi) = occV (sg ks lo hi) ws lo := by
  have hl := sg_len (ks := ks) h0 h1 h2
  have hcs : c.size = ws.length := by rw [← hc, KBw.ints_length]
  have hbs : b.size = ks.length := by rw [← hb, KBw.ints_length]
  have hw : Builtin.Bytes.window b.size (some lo) (some hi) = (lo, hi) := by
    unfold Builtin.Bytes.window
    simp only [Option.getD_some]
    rw [if_neg (by omega), if_neg (by omega), Int.min_eq_right (by omega)]
  unfold By.findOf By.findRaw occV
  rw [hw]
  simp only
  by_cases h : hi - lo < c.size
  · rw [if_pos h, occ_short (by omega)]; rfl
  · obtain ⟨l, rfl⟩ := Int.eq_ofNat_of_zero_le h0
    obtain ⟨m, rfl⟩ := Int.eq_ofNat_of_zero_le (Int.le_trans h0 h1)
    rw [if_neg h]
    simp only [Option.bind_some, Int.toNat_natCast]
    rw [find_occ hb hc (by omega) (by omega)]
    cases occ (sg ks l m) ws with
    | none => rfl
    | some j => simp only [Option.map_some]; omega
theorem findOf_all {b c : Array UInt8} {ks ws : List Int} (hb : KBw.bInts b = ks) (hc : KBw.bInts c = ws) : By.findOf b c none none = occV ks ws 0 := by
  have hbs : b.size = ks.length := by rw [← hb, KBw.ints_length]
  have e : By.findOf b c none none = By.findOf b c (some 0) (some (ks.length : Int)) := by
    unfold By.findOf By.findRaw Builtin.Bytes.window
    simp only [Option.getD_none, Option.getD_some, hbs]
  rw [e, findOf_occ hb hc (Int.le_refl _) (by omega) (Int.le_refl _)]
  congr 1
  rw [sg, Int.toNat_natCast, List.take_length]; rfl
namespace By
section
variable {prog : Program} {w : World} {A : Around} {E : Value → Shared → Prop} {s : Shared} {b c : Array UInt8} {ks ws : List Int} {t u : Tok} {lo hi : Int} {tl th : Tok}
theorem find_method {M : Model} {b : Array UInt8} {pl : Sem Bool} {Q : Value × List Value → Shared → Prop} (h : Q (.builtin "bytes.find", [.bytes b t]) s) : wpAny M A (getMethod (.bytes b t) "find" pl) Q E s := by
  with_reducible exact KBd.method_of (.bytes b t) (typeIs_bytes _ _ _) slot_bytes_find type_bytes_find KBd.noRef h
theorem find2 {Q : Value → Shared → Prop} (hb : KBw.bInts b = ks) (hc : KBw.bInts c = ws) (h : Q (.int (occV ks ws 0) s.toks) { s with toks := s.toks + 1 }) : wpAny (model prog w) A (call (.builtin "bytes.find") [.bytes b t, .bytes c u]) Q E s :=
  call_gives slot_bytes_find (typeIs_bytes _ _ _) entry_bytes_find (args_bytes_find_2 _ _) gives_find2 (by rw [findOf_all hb hc]; exact h)
theorem find4 {Q : Value → Shared → Prop} (hb : KBw.bInts b = ks) (hc : KBw.bInts c = ws) (h0 : 0 ≤ lo) (h1 : lo ≤ hi) (h2 : hi ≤ ks.length) (h : Q (.int (occV (sg ks lo hi) ws lo) s.toks) { s with toks := s.toks + 1 }) :
    wpAny (model prog w) A (call (.builtin "bytes.find") [.bytes b t, .bytes c u, .int lo tl, .int hi th]) Q E s :=
  call_gives slot_bytes_find (typeIs_bytes _ _ _) entry_bytes_find (args_bytes_find_4 _ _ _ _) gives_find4 (by rw [findOf_occ hb hc h0 h1 h2]; exact h)
end
end By
theorem w_find_1 : True := by
  (k_with "getMethod bytes" => ((k_here; (with_reducible refine By.find_method ?_))))
  (k_with "call builtin:bytes.find" => ((k_here; k_dflt (first | refine By.find2 (by kba_ints) (by kba_ints2) ?_ | refine By.find4 (by kba_ints) (by kba_ints2) (by omega) (by omega) (by omega) ?_))))
  trivial
end
section
theorem w_repl_0 : True := by
  k_with_none
  (k_with "enter" => (first
      | cell_enter
      | walk_at "enter S"
      | (refine' code_defC (by k_asm) (by k_asm) (by k_asm) (by k_asm) (by k_asm) (by exact rfl) (by exact rfl) (by first | assumption | exact rfl) (by k_is) (by k_is) (by ktr_room) (by first | exact BindsTo.of_eq rfl | exact binds_K (by k_in) rfl (by k_is) rfl rfl rfl) (by exact rfl) (by decide +kernel) ?_ (by exact rfl) (by exact rfl) (by exact rfl); k_whole; intro _ _ _ _ _ _ _ N' Y' B' _ _ l1; (try k_lt l1); k_cells Y'; (try simp only [List.cons_append, List.nil_append] at N'); (try dsimp only); (try k_lift B'); (try k_fold))))
  (k_with "call ref" => ((k_here; k_dflt (first
      | (refine' call_cls0 (by k_asm) (by k_asm) (by k_asm) (by k_is) (by k_is) ?_; k_whole; intro _ _ _ _ _ l1 l2; (try k_lt l1); (try k_lt2 l2); (try k_sweep))
      | (refine' call_cls (by k_asm) (by k_asm) (by k_asm) (by k_is) (by k_is) (by k_is) ?_; k_whole; intro _ _ _ _ _ l1 l2; (try k_lt l1); (try k_lt2 l2); (try k_sweep); walk_at "enter")
      | (refine wpAny_call ?_; walk_at "enter")))))
  (k_with "halt" => ((with_reducible show LCg.CompSrc _ _ _ _ _ _ _ _ _ _ _ _ _ _)))
  (k_with "halt" => ((with_reducible show wpAny _ _ (exec (Stmt.While _ _ _ _) _) _ _ _)))
  (k_with "halt" => ((with_reducible show wpAny _ _ (pyIter _) (fun it s₂ => LoopAtV _ _ _ _ _ _ _ _ _ it s₂) _ _)))
  (k_with "go" => (repeat' ((fail_if_success (walk_at "halt")); first | (k_unfold; (try dsimp only)) | walk1 | (dsimp only; walk1) | (leave1; walk_say "STEP leave1"; (try dsimp only)) | fail "no step")))
  (k_with "compareOp In int bytes" => ((k_here; (with_reducible show wpAny _ _ (compareOp CmpOp.In (Value.int _ _) (Value.bytes _ _)) _ _ _); k_dflt (refine By.in_bytes (by kba_ints) (by omega) (by omega) ?_))))
  (k_with "compareOp NotIn int bytes" => ((k_here; (with_reducible show wpAny _ _ (compareOp CmpOp.NotIn (Value.int _ _) (Value.bytes _ _)) _ _ _); k_dflt (refine By.notin_bytes (by kba_ints) (by omega) (by omega) ?_))))
  (k_with "getMethod bytes" => ((k_here; (with_reducible refine By.find_method ?_))))
  (k_with "call builtin:bytes.find" => ((k_here; k_dflt (first | refine By.find2 (by kba_ints) (by kba_ints2) ?_ | refine By.find4 (by kba_ints) (by kba_ints2) (by omega) (by omega) (by omega) ?_))))
  trivial
/-- l with each old (from the left, none lapping) made new; the number is fuel -/
def rep (old new : List Int) : Nat → List Int → List Int
  | 0, l => l
  | n + 1, l => if l.take old.length = old then new ++ rep old new n (l.drop old.length) else match l with
    | [] => []
    | x :: r => x :: rep old new n r
theorem rep_hit {old new l : List Int} {n : Nat} (h : l.take old.length = old) : rep old new (n + 1) l = new ++ rep old new n (l.drop old.length) := by
  rw [rep.eq_def]; exact if_pos h
theorem rep_miss {old new r : List Int} {x : Int} {n : Nat} (h : ¬ (x :: r).take old.length = old) : rep old new (n + 1) (x :: r) = x :: rep old new n r := by
  rw [rep.eq_def]; exact if_neg h
theorem rep_short {old new : List Int} : ∀ (n : Nat) {l : List Int}, l.length < old.length → rep old new n l = l
  | 0, _, _ => rfl
  | n + 1, [], h => by
    rw [rep, if_neg (fun e => by have := congrArg List.length e; rw [List.length_take] at this; simp only [List.length_nil] at *; omega)]
  | n + 1, x :: r, h => by
    rw [rep, if_neg (fun e => by have := congrArg List.length e; rw [List.length_take] at this; omega)]
    show x :: rep old new n r = x :: r
    rw [rep_short n (by rw [List.length_cons] at h; omega)]
theorem rep_len {old new : List Int} (hw : 1 ≤ old.length) : ∀ (n : Nat) (l : List Int), (rep old new n l).length ≤ l.length * (new.length + 1)
  | 0, l => by rw [rep]; exact Nat.le_mul_of_pos_right _ (Nat.succ_pos _)
  | n + 1, l => by
    by_cases h : l.take old.length = old
    · have hl := congrArg List.length h
      rw [List.length_take] at hl
      have ih := rep_len hw n (l.drop old.length) (new := new)
      rw [rep_hit h, List.length_append]
      have h2 : (l.drop old.length).length * (new.length + 1) ≤ (l.length - 1) * (new.length + 1) := Nat.mul_le_mul_right _ (by rw [List.length_drop]; omega)
      obtain ⟨m, hm⟩ : ∃ m, l.length = m + 1 := ⟨l.length - 1, by omega⟩
      rw [hm, Nat.add_sub_cancel] at h2
      rw [hm, Nat.succ_mul]
      omega
    · cases l with
      | nil => rw [rep.eq_def]; simp only [if_neg h]; exact Nat.zero_le _
      | cons x r =>
        have ih := rep_len hw n r (new := new)
        rw [rep_miss h, List.length_cons, List.length_cons, Nat.succ_mul]
        omega
def spl (ks : List Int) (w : Nat) (new : List Int) : Nat → List Nat → List Int
  | last, [] => ks.drop last
  | last, p :: r => (ks.drop last).take (p - last) ++ (new ++ spl ks w new (p + w) r)
def occs (ks old : List Int) : Nat → Nat → Nat → List Nat
  | 0, _, _ => []
  | k + 1, i, nx => if nx ≤ i ∧ (ks.drop i).take old.length = old then i :: occs ks old k (i + 1) (i + old.length) else occs ks old k (i + 1) nx
theorem spl_rep {ks old new : List Int} (hw : 1 ≤ old.length) : ∀ (k i nx n : Nat), i + k = ks.length + 1 - old.length → nx ≤ ks.length → ks.length - max i nx < n →
    spl ks old.length new nx (occs ks old k i nx) = (ks.drop nx).take (i - nx) ++ rep old new n (ks.drop (max i nx))
  | 0, i, nx, n, hi, hx, hn => by
    clear hn
    have hd : (ks.drop (max i nx)).length < old.length := by
      rw [List.length_drop]
      have := Nat.le_max_left i nx
      omega
    rw [rep_short n hd, occs, spl]
    by_cases h : nx ≤ i
    · rw [Nat.max_eq_left h, show ks.drop i = (ks.drop nx).drop (i - nx) by rw [List.drop_drop, Nat.add_sub_cancel' h], List.take_append_drop]
    · rw [Nat.max_eq_right (Nat.le_of_not_le h), Nat.sub_eq_zero_of_le (Nat.le_of_not_le h), List.take_zero, List.nil_append]
  | k + 1, i, nx, n, hi, hx, hn => by
    obtain ⟨m, rfl⟩ : ∃ m, n = m + 1 := ⟨n - 1, (Nat.succ_pred_eq_of_pos (Nat.lt_of_le_of_lt (Nat.zero_le _) hn)).symm⟩
    have hi2 : i + 1 + k = ks.length + 1 - old.length := by rw [← hi, Nat.add_assoc, Nat.add_comm 1 k]
    have hlt : i + old.length ≤ ks.length := by clear hn hx hi; omega
    have hlt1 : i < ks.length := Nat.lt_of_lt_of_le (Nat.lt_add_of_pos_right hw) hlt
    have hle := Nat.add_le_add_left hw i
    clear hi
    rw [occs]
    by_cases hm : nx ≤ i ∧ (ks.drop i).take old.length = old
    · rw [Nat.max_eq_left hm.1] at hn
      rw [if_pos hm, spl, spl_rep hw k (i + 1) (i + old.length) m hi2 hlt (by rw [Nat.max_eq_right hle]; clear hi2 hx; omega), Nat.max_eq_left hm.1, rep_hit hm.2, List.drop_drop,
        Nat.sub_eq_zero_of_le hle, List.take_zero, List.nil_append, Nat.max_eq_right hle]
    · rw [if_neg hm]
      by_cases h : nx ≤ i
      · rw [Nat.max_eq_left h] at hn
        rw [spl_rep hw k (i + 1) nx m hi2 hx (by rw [Nat.max_eq_left (Nat.le_succ_of_le h)]; clear hi2 hx hlt hle; omega), Nat.max_eq_left h, Nat.max_eq_left (Nat.le_succ_of_le h), List.drop_eq_getElem_cons hlt1, rep_miss (fun e => hm ⟨h, by rw [List.drop_eq_getElem_cons hlt1]; exact e⟩)]
        show _ = List.take (i - nx) (ks.drop nx) ++ (ks[i] :: rep old new m (ks.drop (i + 1)))
        rw [Nat.succ_sub h, List.take_add_one, List.getElem?_drop, Nat.add_sub_cancel' h, List.getElem?_eq_getElem hlt1, List.append_assoc]
        rfl
      · have h2 := Nat.lt_of_not_le h
        have h3 := Nat.le_of_lt h2
        rw [Nat.max_eq_right h3] at hn
        rw [spl_rep hw k (i + 1) nx (m + 1) hi2 hx (by rw [Nat.max_eq_right h2]; exact hn), Nat.sub_eq_zero_of_le h2, Nat.sub_eq_zero_of_le h3, Nat.max_eq_right h2, Nat.max_eq_right h3]
namespace By
open Builtin
theorem occs_fold {b c : Array UInt8} {ks ws : List Int} (hb : KBw.bInts b = ks) (hc : KBw.bInts c = ws) : ∀ (k i nx : Nat) (acc : List Nat),
    ((List.range' i k).foldl (fun (acc : List Nat × Nat) (i : Nat) => if i ≥ acc.2 && b.extract i (i + c.size) == c then (i :: acc.1, i + c.size) else acc) (acc, nx)).1.reverse = acc.reverse ++ occs ks ws k i nx
  | 0, i, nx, acc => by simp [occs]
  | k + 1, i, nx, acc => by
    have hcs : c.size = ws.length := by rw [← hc, KBw.ints_length]
    rw [List.range'_succ, List.foldl_cons, occs]
    by_cases hm : nx ≤ i ∧ (ks.drop i).take ws.length = ws
    · rw [if_pos hm, if_pos (by rw [hcs, bInts_inj, bInts_ext, hb, hc, Bool.and_eq_true]; exact ⟨decide_eq_true hm.1, decide_eq_true hm.2⟩), occs_fold hb hc, hcs, List.reverse_cons, List.append_assoc]
      rfl
    · rw [if_neg hm, if_neg (by rw [hcs, bInts_inj, bInts_ext, hb, hc, Bool.and_eq_true]; exact fun h => hm ⟨of_decide_eq_true h.1, of_decide_eq_true h.2⟩), occs_fold hb hc]
theorem occurrences_eq {b c : Array UInt8} {ks ws : List Int} (hb : KBw.bInts b = ks) (hc : KBw.bInts c = ws) : Bytes.occurrences b c 0 b.size = occs ks ws (ks.length + 1 - ws.length) 0 0 := by
  have hcs : c.size = ws.length := by rw [← hc, KBw.ints_length]
  have hbs : b.size = ks.length := by rw [← hb, KBw.ints_length]
  unfold Bytes.occurrences
  have h := occs_fold hb hc (ks.length + 1 - ws.length) 0 0 []
  rw [List.reverse_nil, List.nil_append] at h
  rw [← h, hbs, Nat.zero_add, hcs, ← List.range_eq_range']
  simp only [Nat.add_zero, List.map_id']
theorem occs_len (ks old : List Int) : ∀ k i nx : Nat, (occs ks old k i nx).length ≤ k
  | 0, _, _ => Nat.le_refl _
  | k + 1, i, nx => by
    rw [occs]
    split
    · rw [List.length_cons]; have := occs_len ks old k (i + 1) (i + old.length); omega
    · have := occs_len ks old k (i + 1) nx; omega
def partsOf (b : Array UInt8) (w : Nat) : Nat → List Nat → List (Array UInt8)
  | last, [] => [b.extract last b.size]
  | last, p :: r => b.extract last p :: partsOf b w (p + w) r
theorem between_fold (b : Array UInt8) (w : Nat) : ∀ (places : List Nat) (parts : Array (Array UInt8)) (last : Nat),
    (match places.foldl (fun (x : Array (Array UInt8) × Nat) p => (x.1.push (b.extract x.2 p), p + w)) (parts, last) with | (ps, l) => (ps.push (b.extract l b.size)).toList) = parts.toList ++ partsOf b w last places
  | [], parts, last => by simp [partsOf]
  | p :: r, parts, last => by
    rw [List.foldl_cons, between_fold b w r, partsOf, Array.toList_push, List.append_assoc]; rfl
theorem between_eq (b : Array UInt8) (w : Nat) (places : List Nat) : Bytes.between b w places = partsOf b w 0 places := by
  have h := between_fold b w places #[] 0
  rw [List.nil_append] at h
  exact h
theorem joined_fold (sep : Array UInt8) : ∀ (parts : List (Array UInt8)) (n : Nat) (out : Array UInt8), 0 < n →
    (parts.zipIdx n).foldl (fun out (x : Array UInt8 × Nat) => (if x.2 > 0 then out ++ sep else out) ++ x.1) out = out ++ (parts.map fun p => sep ++ p).foldl (· ++ ·) #[]
  | [], n, out, _ => by simp
  | p :: r, n, out, h => by
    rw [List.zipIdx_cons, List.foldl_cons, joined_fold sep r (n + 1) _ (by omega), if_pos h, List.map_cons, List.foldl_cons]
    have app : ∀ (l : List (Array UInt8)) (a : Array UInt8), l.foldl (· ++ ·) a = a ++ l.foldl (· ++ ·) #[] := by
      intro l
      induction l with
      | nil => intro a; simp
      | cons x r ih => intro a; rw [List.foldl_cons, ih, List.foldl_cons, ih (#[] ++ x), Array.empty_append, Array.append_assoc]
    rw [app _ (#[] ++ (sep ++ p)), Array.empty_append, Array.append_assoc, Array.append_assoc, Array.append_assoc]
theorem bInts_append (b c : Array UInt8) : KBw.bInts (b ++ c) = KBw.bInts b ++ KBw.bInts c := KBw.ints_app rfl rfl
theorem fold_app : ∀ (l : List (Array UInt8)) (a : Array UInt8), l.foldl (· ++ ·) a = a ++ l.foldl (· ++ ·) #[]
  | [], a => by simp
  | x :: r, a => by rw [List.foldl_cons, fold_app r, List.foldl_cons, fold_app r (#[] ++ x), Array.empty_append, Array.append_assoc]
theorem bInts_cut {b : Array UInt8} {ks : List Int} (hb : KBw.bInts b = ks) (i j : Nat) : KBw.bInts (b.extract i j) = (ks.drop i).take (j - i) := by
  subst hb
  unfold KBw.bInts
  rw [Array.toList_extract, List.extract_eq_take_drop, List.map_take, List.map_drop]
theorem parts_spl {b sep : Array UInt8} {ks new : List Int} (hb : KBw.bInts b = ks) (hs : KBw.bInts sep = new) (w : Nat) : ∀ (places : List Nat) (last : Nat),
    KBw.bInts (((partsOf b w last places).map fun p => sep ++ p).foldl (· ++ ·) #[]) = new ++ spl ks w new last places
  | [], last => by
    have hbs : b.size = ks.length := by rw [← hb, KBw.ints_length]
    rw [partsOf, spl, List.map_cons, List.map_nil, List.foldl_cons, List.foldl_nil, Array.empty_append, bInts_append, hs, bInts_cut hb, hbs, List.take_of_length_le (by rw [List.length_drop]; omega)]
  | p :: r, last => by
    rw [partsOf, spl, List.map_cons, List.foldl_cons, fold_app, bInts_append, parts_spl hb hs w r, Array.empty_append, bInts_append, hs, bInts_cut hb, List.append_assoc]
theorem joined_eq {b sep : Array UInt8} {ks new : List Int} (hb : KBw.bInts b = ks) (hs : KBw.bInts sep = new) (w : Nat) (places : List Nat) :
    KBw.bInts (Bytes.joined sep (Bytes.between b w places)) = spl ks w new 0 places := by
  rw [between_eq]
  have hbs : b.size = ks.length := by rw [← hb, KBw.ints_length]
  have e : ∀ (p : Array UInt8) (r : List (Array UInt8)), Bytes.joined sep (p :: r) = p ++ (r.map fun p => sep ++ p).foldl (· ++ ·) #[] := fun p r => by
    have h := joined_fold sep r 1 p (by omega)
    unfold Bytes.joined
    rw [List.zipIdx_cons, List.foldl_cons, ← h]
    simp
  cases places with
  | nil =>
    rw [partsOf, e, List.map_nil, List.foldl_nil, Array.append_empty, bInts_cut hb, hbs, spl, List.take_of_length_le (by rw [List.length_drop]; omega)]
  | cons p r =>
    rw [partsOf, e, bInts_append, bInts_cut hb, parts_spl hb hs, spl]
end By
namespace By
open Builtin
set_option maxRecDepth 100000
theorem slot_bytes_replace : Slot "bytes" "replace" "bytes.replace" :=
  .of (owner := "bytes") (n := "replace") (by rw [typeLookup_type, builtinLookup_eq_fast]; kernel_rfl) (by decide +kernel) (by decide +kernel) (by decide +kernel)
    (by first | exact .inl (by decide +kernel) | exact .inr (by decide +kernel)) (by rw [isSubtype_type]; kernel_rfl)
theorem type_bytes_replace : typeOf (.builtin "bytes.replace") = pure (.type "method_descriptor") := by show builtinType _ = _; rw [builtinType_eq_fast]; kernel_rfl
theorem entry_bytes_replace : entryFor table "bytes.replace" = some Builtin.«bytes.replace» := entryFor_of_tree (by kernel_rfl)
theorem args_bytes_replace_3 (a b c : Value) : argsOk "bytes.replace" ⟨[a, b, c], []⟩ := by
  unfold argsOk; rw [signature?_of (id := "bytes.replace") (n := ['e', 'c', 'a', 'l', 'p', 'e', 'r']) (o := ['s', 'e', 't', 'y', 'b']) (by kernel_rfl) FB.owner_bytes]; kernel_rfl
section
variable {prog : Program} {w : World} {A : Around} {E : Value → Shared → Prop} {s : Shared} {b c d : Array UInt8} {ks ws ns : List Int} {t u v : Tok}
theorem gives_replace (ho : c.isEmpty = false) (hz : Bytes.tooLong (b.size + (Bytes.occurrences b c 0 b.size).length * d.size) = false) :
    Gives («bytes.replace» ⟨[.bytes b t, .bytes c u, .bytes d v], []⟩) (if (Bytes.occurrences b c 0 b.size).isEmpty = true then .val (.bytes b t) else .bytes (Bytes.joined d (Bytes.between b c.size (Bytes.occurrences b c 0 b.size)))) := by
  refine .of_wp fun M A E s Q hq => ?_
  show wpAny M A (selfAndSome _ "replace" 2 3 ⟨[.bytes b t, .bytes c u, .bytes d v], []⟩ >>= fun r => _) _ E s
  refine wpAny_bind (wpAny_of_eq (a := (.bytes b t, [.bytes c u, .bytes d v])) rfl ?_)
  refine wpAny_bind (wpAny_of_eq KBd.like_eq ?_)
  refine wpAny_bind (wpAny_of_eq KBd.like_eq ?_)
  refine wpAny_bind (wpAny_pure ?_)
  refine wpAny_bind (wpAny_of_eq KBd.like_eq ?_)
  refine wpAny_bind (wpAny_of_eq KBd.like_eq ?_)
  refine wpAny_bind (wpAny_of_eq (a := b) rfl ?_)
  simp only [ho, Bool.false_eq_true, if_false, Bool.false_and, Bool.or_false, show ((-1 : Int) < 0) from by decide, if_true]
  by_cases he : (Bytes.occurrences b c 0 b.size).isEmpty = true
  · rw [if_pos he] at hq ⊢
    refine wpAny_bind (wpAny_rule ?_)
    show wpAny M A (Bytes.Kind.same .bytes (.bytes b t) >>= fun r => _) _ E s
    refine wpAny_bind ?_
    show wpAny M A (typeOf (.bytes b t) >>= fun r => _) _ E s
    refine wpAny_bind (wpAny_typeOf (typeIs_bytes s b t) ?_)
    exact wpAny_pure (wpAny_pure ⟨_, rfl, hq⟩)
  · rw [if_neg he] at hq ⊢
    rw [hz]
    simp only [Bool.false_eq_true, if_false]
    exact wpAny_bind (wpAny_mkBytes (wpAny_pure ⟨_, rfl, hq.2⟩) hq.1)
theorem replace_method {M : Model} {b : Array UInt8} {pl : Sem Bool} {Q : Value × List Value → Shared → Prop} (h : Q (.builtin "bytes.replace", [.bytes b t]) s) : wpAny M A (getMethod (.bytes b t) "replace" pl) Q E s := by
  with_reducible exact KBd.method_of (.bytes b t) (typeIs_bytes _ _ _) slot_bytes_replace type_bytes_replace KBd.noRef h
theorem replace3 {Q : Value → Shared → Prop} (hb : KBw.bInts b = ks) (hc : KBw.bInts c = ws) (hd : KBw.bInts d = ns) (hw : 1 ≤ ws.length) (hks : ks.length ≤ 1000) (hns2 : ns.length ≤ 2)
    (h : ∀ r t' k, KBw.bInts r = rep ws ns (ks.length + 1) ks → (rep ws ns (ks.length + 1) ks).length ≤ 3 * ks.length → Q (.bytes r t') { s with toks := k }) : wpAny (model prog w) A (call (.builtin "bytes.replace") [.bytes b t, .bytes c u, .bytes d v]) Q E s := by
  have hns : ns.length ≤ 1000 := by omega
  have h3 : (rep ws ns (ks.length + 1) ks).length ≤ 3 * ks.length := Nat.le_trans (rep_len hw _ _) (by rw [Nat.mul_comm]; exact Nat.mul_le_mul_right _ (by omega))
  have hcs : c.size = ws.length := by rw [← hc, KBw.ints_length]
  have hbs : b.size = ks.length := by rw [← hb, KBw.ints_length]
  have hds : d.size = ns.length := by rw [← hd, KBw.ints_length]
  have ho : c.isEmpty = false := by rw [Array.isEmpty_eq_false_iff, ne_eq, ← Array.size_eq_zero_iff]; omega
  have hoc := occurrences_eq hb hc
  have hlen := occs_len ks ws (ks.length + 1 - ws.length) 0 0
  have hsp := spl_rep (ks := ks) (old := ws) (new := ns) hw (ks.length + 1 - ws.length) 0 0 (ks.length + 1) (by omega) (by omega) (by omega)
  rw [Nat.sub_zero, List.take_zero, List.nil_append, Nat.max_self, List.drop_zero] at hsp
  have hm : (Bytes.occurrences b c 0 b.size).length * d.size ≤ 1001 * 1000 := by
    rw [hoc, hds]
    exact Nat.mul_le_mul (by omega) hns
  have hj : KBw.bInts (Bytes.joined d (Bytes.between b c.size (Bytes.occurrences b c 0 b.size))) = rep ws ns (ks.length + 1) ks := by
    rw [joined_eq hb hd, hoc, hcs, hsp]
  have hz : Bytes.tooLong (b.size + (Bytes.occurrences b c 0 b.size).length * d.size) = false := KBy.tooLong_not (by omega)
  refine call_gives slot_bytes_replace (typeIs_bytes _ _ _) entry_bytes_replace (args_bytes_replace_3 _ _ _) (gives_replace ho hz) ?_
  by_cases he : (Bytes.occurrences b c 0 b.size).isEmpty = true
  · rw [if_pos he]
    refine h b t s.toks ?_ h3
    have e0 : Bytes.occurrences b c 0 b.size = [] := List.isEmpty_iff.mp he
    rw [← hj, joined_eq hb hd, e0, spl, List.drop_zero, hb]
  · rw [if_neg he]
    refine ⟨?_, h _ _ _ hj h3⟩
    have : (Bytes.joined d (Bytes.between b c.size (Bytes.occurrences b c 0 b.size))).size ≤ 1002 * 1000 := by
      rw [← KBw.ints_length, hj]
      have h1 := rep_len (new := ns) hw (ks.length + 1) ks
      have h2 : ks.length * (ns.length + 1) ≤ 1000 * 1001 := Nat.mul_le_mul hks (by omega)
      omega
    rw [sizeLine_eq]; omega
end
end By
theorem w_repl_1 : True := by
  (k_with "getMethod bytes" => ((k_here; (with_reducible refine By.replace_method ?_))))
  (k_with "call builtin:bytes.replace" => ((k_here; k_dflt (refine By.replace3 (by kba_ints) (by kba_ints2) (by kba_ints2) (by decide) (by omega) (by decide) ?_); intro _ _ _ _ _)))
  trivial
end
section
theorem w_canon_0 : True := by
  k_with_none
  (k_with "enter" => (first
      | cell_enter
      | walk_at "enter S"
      | (refine' code_defC (by k_asm) (by k_asm) (by k_asm) (by k_asm) (by k_asm) (by exact rfl) (by exact rfl) (by first | assumption | exact rfl) (by k_is) (by k_is) (by ktr_room) (by first | exact BindsTo.of_eq rfl | exact binds_K (by k_in) rfl (by k_is) rfl rfl rfl) (by exact rfl) (by decide +kernel) ?_ (by exact rfl) (by exact rfl) (by exact rfl); k_whole; intro _ _ _ _ _ _ _ N' Y' B' _ _ l1; (try k_lt l1); k_cells Y'; (try simp only [List.cons_append, List.nil_append] at N'); (try dsimp only); (try k_lift B'); (try k_fold))))
  (k_with "call ref" => ((k_here; k_dflt (first
      | (refine' call_cls0 (by k_asm) (by k_asm) (by k_asm) (by k_is) (by k_is) ?_; k_whole; intro _ _ _ _ _ l1 l2; (try k_lt l1); (try k_lt2 l2); (try k_sweep))
      | (refine' call_cls (by k_asm) (by k_asm) (by k_asm) (by k_is) (by k_is) (by k_is) ?_; k_whole; intro _ _ _ _ _ l1 l2; (try k_lt l1); (try k_lt2 l2); (try k_sweep); walk_at "enter")
      | (refine wpAny_call ?_; walk_at "enter")))))
  (k_with "halt" => ((with_reducible show LCg.CompSrc _ _ _ _ _ _ _ _ _ _ _ _ _ _)))
  (k_with "halt" => ((with_reducible show wpAny _ _ (exec (Stmt.While _ _ _ _) _) _ _ _)))
  (k_with "halt" => ((with_reducible show wpAny _ _ (pyIter _) (fun it s₂ => LoopAtV _ _ _ _ _ _ _ _ _ it s₂) _ _)))
  (k_with "go" => (repeat' ((fail_if_success (walk_at "halt")); first | (k_unfold; (try dsimp only)) | walk1 | (dsimp only; walk1) | (leave1; walk_say "STEP leave1"; (try dsimp only)) | fail "no step")))
  (k_with "compareOp In int bytes" => ((k_here; (with_reducible show wpAny _ _ (compareOp CmpOp.In (Value.int _ _) (Value.bytes _ _)) _ _ _); k_dflt (refine By.in_bytes (by kba_ints) (by omega) (by omega) ?_))))
  (k_with "compareOp NotIn int bytes" => ((k_here; (with_reducible show wpAny _ _ (compareOp CmpOp.NotIn (Value.int _ _) (Value.bytes _ _)) _ _ _); k_dflt (refine By.notin_bytes (by kba_ints) (by omega) (by omega) ?_))))
  (k_with "getMethod bytes" => ((k_here; (with_reducible refine By.find_method ?_))))
  (k_with "call builtin:bytes.find" => ((k_here; k_dflt (first | refine By.find2 (by kba_ints) (by kba_ints2) ?_ | refine By.find4 (by kba_ints) (by kba_ints2) (by omega) (by omega) (by omega) ?_))))
  (k_with "getMethod bytes" => ((k_here; (with_reducible refine By.replace_method ?_))))
  (k_with "call builtin:bytes.replace" => ((k_here; k_dflt (refine By.replace3 (by kba_ints) (by kba_ints2) (by kba_ints2) (by decide) (by omega) (by decide) ?_); intro _ _ _ _ _)))
  trivial
/-- as `Call`, from contexts alone whose frames hold no bytearray's buffer -/
abbrev CallS (w : World) (mean : ExcName → Option Value) (mg mb : Str → Option Value) (f : Addr) (vs : List Value) (news : List (Addr × Obj)) (dep un : Nat)
    (Ret : (Value → List (Addr × Obj) → Prop → Prop) → Prop) : Prop :=
  ∀ (dp u : Nat) (gd : Option (List Code)) (cn : Str) (cs : Scope) (a : Addr) (ccd : Value) (cl : List (Str × Addr)) (outer : List Env) (A₀ : Around) (base h₀ : Heap) (L : Addr) (m : Str → Option Value) (s : Shared) (Q E : Value → Shared → Prop),
    Below A₀ base outer h₀ → Fr h₀ L s.heap m → (hd.heap_39 w.params).In h₀ → News h₀ L s.heap news → Top hd.view_39 (looseW hd.view_39 [Str.ofString "PostError", Str.ofString "line_spans", Str.ofString "_law_codes"]) mean mg mb h₀ → cs.kind = .function →
    dp + dep < recursionLimit → u + un < cLine →
    Ret (fun v news' P => ∀ h' tk', Fr h₀ L h' m → News h₀ L h' news' → P → Q v { s with heap := h', toks := tk' }) →
    wpS (model PySem.Challenge.rw_no0362_01.row.prog w) (ktrTop dp u gd cn cs L a ccd cl outer) (call (.ref f) vs) Q E s
/-- what canonical adds at one place -/
def cstep (p k : Int) : List Int := if k = 13 then [13, 10] else if k = 10 then (if p = 13 then [] else [13, 10]) else [k]
def cprev (ks : List Int) (i : Nat) : Int := if i = 0 then 0 else ks.getD (i - 1) 0
def cacc (ks : List Int) (i : Nat) : List Int := (List.range i).flatMap fun j => cstep (cprev ks j) (ks.getD j 0)
theorem cacc_succ (ks : List Int) (i : Nat) : cacc ks (i + 1) = cacc ks i ++ cstep (cprev ks i) (ks.getD i 0) := by
  rw [cacc, List.range_succ, List.flatMap_append]
  simp [cacc]
theorem cacc_len (ks : List Int) (i : Nat) : (cacc ks i).length ≤ 2 * i := by
  induction i with
  | zero => exact Nat.le_refl _
  | succ i ih =>
    rw [cacc_succ, List.length_append]
    have : (cstep (cprev ks i) (ks.getD i 0)).length ≤ 2 := by
      unfold cstep
      split
      · exact Nat.le_refl _
      · split
        · split
          · exact Nat.zero_le _
          · exact Nat.le_refl _
        · exact Nat.le_succ _
    omega
theorem bInts_push {b : Array UInt8} {k : Int} (h0 : 0 ≤ k) (h1 : k < 256) : KBw.bInts (b.push k.toNat.toUInt8) = KBw.bInts b ++ [k] := by
  unfold KBw.bInts
  rw [Array.toList_push, List.map_append]
  congr 1
  have : (k.toNat.toUInt8.toNat : Int) = k := by
    obtain ⟨n, rfl⟩ := Int.eq_ofNat_of_zero_le h0
    have : n < 256 := by omega
    simp only [Int.toNat_natCast]
    have e : n.toUInt8.toNat = n % 256 := by simp
    rw [e, Nat.mod_eq_of_lt this]
  simp only [List.map_cons, List.map_nil, this]
theorem cstep_cr {p k : Int} (h : k = 13) : cstep p k = [13, 10] := if_pos h
theorem cstep_lf {p k : Int} (h : k = 10) (hp : p ≠ 13) : cstep p k = [13, 10] := by subst h; unfold cstep; rw [if_neg (by decide), if_pos rfl, if_neg hp]
theorem cstep_in {p k : Int} (h : k = 10) (hp : p = 13) : cstep p k = [] := by subst h hp; rfl
theorem cstep_one {p k : Int} (h : k ≠ 13) (h2 : k ≠ 10) : cstep p k = [k] := by unfold cstep; rw [if_neg h, if_neg h2]
theorem size_n (n : Nat) : Builtin.Range.rangeSize 0 n 1 = (n : Int) := by
  rw [rangeSize_pos (Int.le_refl 1) (by omega)]
  omega
theorem small_n {n : Nat} (h : n ≤ 1000) : Builtin.Range.small 0 n 1 = true := by
  unfold Builtin.Range.small Builtin.Range.rangeFitsLong
  rw [size_n]
  simp only [Bool.and_eq_true, Bool.or_eq_true, decide_eq_true_eq, beq_iff_eq]
  refine ⟨⟨⟨⟨⟨by omega, by omega⟩, ⟨by omega, by omega⟩⟩, ⟨by omega, by omega⟩⟩, ⟨by omega, by omega⟩⟩, .inr ?_⟩
  rw [if_pos (by decide)]
  simp only [Bool.and_eq_true, decide_eq_true_eq]
  exact ⟨by omega, by omega⟩
theorem w_canon_1 : True := by
  (k_with "halt" => ((with_reducible show wpS _ _ _ _ _ _)))
  (k_with "halt" => ((with_reducible show wpAny _ _ (pyIter _) (fun it s₂ => codeS _ _ _ _ s₂) _ _)))
  (k_with "halt" => ((with_reducible show MethS _ _ _ _ _ _ _ _ _ _ _)))
  trivial
section
variable {w : World} {mean : ExcName → Option Value} {mg mb : Str → Option Value} {news : List (Addr × Obj)} {b : Array UInt8} {tb : Tok} {ks : List Int}
theorem canon_s (hb : KBw.bInts b = ks) (hl : ks.length ≤ 28) :
    CallS w mean mg mb 201 [.bytes b tb] news 8 100 (fun R => ∀ r tr, R (.bytes r tr) news (KBw.bInts r = cacc ks ks.length)) := by
  intro dp u gd cn cs a ccd cl outer A₀ base h₀ L m s Q E B F X N T hkk hd hu hret
  refine wpS_call ?_
  k_dflt (walk_at "enter S")
  refine execsS (assignS (callES ?_))
  walk_at "go"
  refine callWithS_type0 (newBA_K (by k_asm) (by k_asm) ?_)
  intro D h' F' N' l1
  (try k_sweep)
  walk_at "go"
  refine execsS (forS ?_)
  walk_at "go"
  refine rangeS (z := Str.ofString "code") (D := D) (n := ks.length) (fun i b => KBw.bInts b = cacc ks i) rfl rfl rfl (by assumption) (small_n (Nat.le_trans hl (by decide))) (size_n _) (by k_asm) (by k_asm) rfl ?_ ?_
  · intro i u t bf I oI h tk hi hJ hID hI F N
    dsimp only
    refine execsS_any ?_
    walk_at "go"
    refine execsS (ifS (wpS_of ?_))
    walk_at "go"
    · rename ks.getD (i : Int).toNat 0 = 13 => q1
      rw [Int.toNat_natCast] at q1
      rename Fr _ _ _ _ => F5
      rename News _ _ _ _ => N5
      refine execsS (methS ?_ rfl rfl rfl)
      walk_at "go"
      rename Fr _ _ _ _ => F5
      rename News _ _ _ _ => N5
      refine MethS.ba BA.slot_extend BA.type_extend (ba_at N5) ?_
      walk_at "go"
      refine extendBA_K F5 N5 hID (allLt_ne (by assumption)) ?_ ?_
      · rw [← KBw.ints_length, hJ]
        exact Nat.le_trans (Nat.add_le_add (cacc_len ks i) (Nat.le_refl 2)) (by rw [sizeLine_eq]; omega)
      · intro h5 F5 N5
        repeat (dsimp only; refine execsS_nil ?_)
        refine ⟨rfl, _, _, _, _, rfl, F5, N5, ?_, ?_⟩
        · intro y hx hz
          dsimp only
          rw [if_neg hz, if_neg hx, if_neg hz]
        · rw [By.bInts_append, hJ, cacc_succ, cstep_cr q1]
          rfl
    · rename ks.getD (i : Int).toNat 0 ≠ 13 => q1
      rw [Int.toNat_natCast] at q1
      refine execsS (ifS (wpS_of ?_))
      walk_at "go"
      · rename ks.getD (i : Int).toNat 0 = 10 => q2
        rw [Int.toNat_natCast] at q2
        refine execsS (ifS (wpS_of ?_))
        walk_at "go"
        · rename (i : Int) = 0 => q3
          have q4 : cprev ks i ≠ 13 := by
            unfold cprev
            rw [if_pos (by omega)]
            decide
          rename Fr _ _ _ _ => F5
          rename News _ _ _ _ => N5
          refine execsS (methS ?_ rfl rfl rfl)
          walk_at "go"
          rename Fr _ _ _ _ => F5
          rename News _ _ _ _ => N5
          refine MethS.ba BA.slot_extend BA.type_extend (ba_at N5) ?_
          walk_at "go"
          refine extendBA_K F5 N5 hID (allLt_ne (by assumption)) ?_ ?_
          · rw [← KBw.ints_length, hJ]
            exact Nat.le_trans (Nat.add_le_add (cacc_len ks i) (Nat.le_refl 2)) (by rw [sizeLine_eq]; omega)
          · intro h5 F5 N5
            repeat (dsimp only; refine execsS_nil ?_)
            refine ⟨rfl, _, _, _, _, rfl, F5, N5, ?_, ?_⟩
            · intro y hx hz
              dsimp only
              rw [if_neg hz, if_neg hx, if_neg hz]
            · rw [By.bInts_append, hJ, cacc_succ, cstep_lf q2 q4]
              rfl
        · rename (i : Int) ≠ 0 => q3
          rename ks.getD ((i : Int) - 1).toNat 0 ≠ 13 => q5
          have q4 : cprev ks i ≠ 13 := by
            unfold cprev
            rw [if_neg (by omega), show i - 1 = ((i : Int) - 1).toNat by omega]
            exact q5
          rename Fr _ _ _ _ => F5
          rename News _ _ _ _ => N5
          refine execsS (methS ?_ rfl rfl rfl)
          walk_at "go"
          rename Fr _ _ _ _ => F5
          rename News _ _ _ _ => N5
          refine MethS.ba BA.slot_extend BA.type_extend (ba_at N5) ?_
          walk_at "go"
          refine extendBA_K F5 N5 hID (allLt_ne (by assumption)) ?_ ?_
          · rw [← KBw.ints_length, hJ]
            exact Nat.le_trans (Nat.add_le_add (cacc_len ks i) (Nat.le_refl 2)) (by rw [sizeLine_eq]; omega)
          · intro h5 F5 N5
            repeat (dsimp only; refine execsS_nil ?_)
            refine ⟨rfl, _, _, _, _, rfl, F5, N5, ?_, ?_⟩
            · intro y hx hz
              dsimp only
              rw [if_neg hz, if_neg hx, if_neg hz]
            · rw [By.bInts_append, hJ, cacc_succ, cstep_lf q2 q4]
              rfl
        · rename (i : Int) ≠ 0 => q3
          rename ks.getD ((i : Int) - 1).toNat 0 = 13 => q5
          have q4 : cprev ks i = 13 := by
            unfold cprev
            rw [if_neg (by omega), show i - 1 = ((i : Int) - 1).toNat by omega]
            exact q5
          rename Fr _ _ _ _ => F5
          rename News _ _ _ _ => N5
          repeat (dsimp only; refine execsS_nil ?_)
          refine ⟨rfl, _, _, _, _, rfl, F5, N5, ?_, ?_⟩
          · intro y hx hz
            dsimp only
            rw [if_neg hz, if_neg hx, if_neg hz]
          · rw [hJ, cacc_succ, cstep_in q2 q4, List.append_nil]
      · rename ks.getD (i : Int).toNat 0 ≠ 10 => q2
        rw [Int.toNat_natCast] at q2
        refine execsS (methS ?_ rfl rfl rfl)
        walk_at "go"
        rename Fr _ _ _ _ => F5
        rename News _ _ _ _ => N5
        refine MethS.ba BA.slot_append BA.type_append (ba_at N5) ?_
        walk_at "go"
        refine appendBA_K F5 N5 hID (allLt_ne (by assumption)) (by assumption) (by assumption) ?_ ?_
        · rw [← KBw.ints_length, hJ]
          exact Nat.le_trans (Nat.add_le_add (cacc_len ks i) (Nat.le_refl 1)) (by rw [sizeLine_eq]; omega)
        · intro h5 F5 N5
          repeat (dsimp only; refine execsS_nil ?_)
          refine ⟨rfl, _, _, _, _, rfl, F5, N5, ?_, ?_⟩
          · intro y hx hz
            dsimp only
            rw [if_neg hz, if_neg hx, if_neg hz]
          · rw [bInts_push (by assumption) (by assumption), hJ, cacc_succ, cstep_one q1 q2, Int.toNat_natCast]
  · intro h tk a1 u1 bf hJ F N
    dsimp only
    refine execsS (returnS (wpS_of ?_))
    walk_at "go"
    refine call_bytes_ba (b := bf) (N _ (.head _)).1 ?_ ?_
    · rw [← KBw.ints_length, hJ]
      exact Nat.le_trans (cacc_len ks _) (by rw [sizeLine_eq]; omega)
    · intro t9
      walk_at "go"
      exact hret _ _ _ _ (by k_asm) (cb_drop (by k_asm) (by kcf_all)) hJ
end
end
section
theorem w_iscan_0 : True := by
  k_with_none
  (k_with "enter" => (first
      | cell_enter
      | walk_at "enter S"
      | (refine' code_defC (by k_asm) (by k_asm) (by k_asm) (by k_asm) (by k_asm) (by exact rfl) (by exact rfl) (by first | assumption | exact rfl) (by k_is) (by k_is) (by ktr_room) (by first | exact BindsTo.of_eq rfl | exact binds_K (by k_in) rfl (by k_is) rfl rfl rfl) (by exact rfl) (by decide +kernel) ?_ (by exact rfl) (by exact rfl) (by exact rfl); k_whole; intro _ _ _ _ _ _ _ N' Y' B' _ _ l1; (try k_lt l1); k_cells Y'; (try simp only [List.cons_append, List.nil_append] at N'); (try dsimp only); (try k_lift B'); (try k_fold))))
  (k_with "call ref" => ((k_here; k_dflt (first
      | (refine' call_cls0 (by k_asm) (by k_asm) (by k_asm) (by k_is) (by k_is) ?_; k_whole; intro _ _ _ _ _ l1 l2; (try k_lt l1); (try k_lt2 l2); (try k_sweep))
      | (refine' call_cls (by k_asm) (by k_asm) (by k_asm) (by k_is) (by k_is) (by k_is) ?_; k_whole; intro _ _ _ _ _ l1 l2; (try k_lt l1); (try k_lt2 l2); (try k_sweep); walk_at "enter")
      | (refine wpAny_call ?_; walk_at "enter")))))
  (k_with "halt" => ((with_reducible show LCg.CompSrc _ _ _ _ _ _ _ _ _ _ _ _ _ _)))
  (k_with "halt" => ((with_reducible show wpAny _ _ (exec (Stmt.While _ _ _ _) _) _ _ _)))
  (k_with "halt" => ((with_reducible show wpAny _ _ (pyIter _) (fun it s₂ => LoopAtV _ _ _ _ _ _ _ _ _ it s₂) _ _)))
  (k_with "go" => (repeat' ((fail_if_success (walk_at "halt")); first | (k_unfold; (try dsimp only)) | walk1 | (dsimp only; walk1) | (leave1; walk_say "STEP leave1"; (try dsimp only)) | fail "no step")))
  (k_with "compareOp In int bytes" => ((k_here; (with_reducible show wpAny _ _ (compareOp CmpOp.In (Value.int _ _) (Value.bytes _ _)) _ _ _); k_dflt (refine By.in_bytes (by kba_ints) (by omega) (by omega) ?_))))
  (k_with "compareOp NotIn int bytes" => ((k_here; (with_reducible show wpAny _ _ (compareOp CmpOp.NotIn (Value.int _ _) (Value.bytes _ _)) _ _ _); k_dflt (refine By.notin_bytes (by kba_ints) (by omega) (by omega) ?_))))
  (k_with "getMethod bytes" => ((k_here; (with_reducible refine By.find_method ?_))))
  (k_with "call builtin:bytes.find" => ((k_here; k_dflt (first | refine By.find2 (by kba_ints) (by kba_ints2) ?_ | refine By.find4 (by kba_ints) (by kba_ints2) (by omega) (by omega) (by omega) ?_))))
  (k_with "getMethod bytes" => ((k_here; (with_reducible refine By.replace_method ?_))))
  (k_with "call builtin:bytes.replace" => ((k_here; k_dflt (refine By.replace3 (by kba_ints) (by kba_ints2) (by kba_ints2) (by decide) (by omega) (by decide) ?_); intro _ _ _ _ _)))
  (k_with "halt" => ((with_reducible show wpS _ _ _ _ _ _)))
  (k_with "halt" => ((with_reducible show wpAny _ _ (pyIter _) (fun it s₂ => codeS _ _ _ _ s₂) _ _)))
  (k_with "halt" => ((with_reducible show MethS _ _ _ _ _ _ _ _ _ _ _)))
  trivial
namespace BA
open Builtin
set_option maxRecDepth 100000
theorem look_bytes : typeLookup (.type "bytes") "__bytes__" = pure (some (.builtin "bytes.__bytes__")) := by rw [typeLookup_type, builtinLookup_eq_fast]; kernel_rfl
section
variable {prog : Program} {w : World} {A : Around} {E : Value → Shared → Prop} {s : Shared}
theorem new_same {b : Array UInt8} {t : Tok} {Q : Value → Shared → Prop} (h : Q (.bytes b t) s) :
    codeAny (model prog w) A (.call (.builtin "bytes.__new__") ⟨[.type "bytes", .bytes b t], []⟩) (wants Q E) s := by
  refine codeAny_of_tree ?_
  show wpAny _ A.in1 (do checkBuiltinCall "bytes.__new__" ⟨[.type "bytes", .bytes b t], []⟩; again (.builtin "bytes.__new__" ⟨[.type "bytes", .bytes b t], []⟩)) _ _ s
  refine wpAny_bind (wpAny_of_eq (F.bm_newCall _) (wpAny_pure ⟨plainId_quiet F.bm_plain _, codeAny_builtin F.bm_entry ?_⟩))
  rw [Around.under_plainId F.bm_plain _]
  unfold Builtin.«bytes.__new__»
  refine wpAny_bind (wpAny_of_eq (a := true) rfl ?_)
  refine bm_if_false rfl ?_
  refine wpAny_bind (wpAny_of_eq F.bm_sub ?_)
  refine bm_if_false rfl ?_
  refine wpAny_bind (wpAny_of_eq (F.bm_bind _) ?_)
  refine wpAny_bind (wpAny_of_eq (a := ()) rfl ?_)
  refine wpAny_bind (wpAny_of_eq (a := ()) rfl ?_)
  refine bm_if_false rfl ?_
  refine wpAny_bind (wpAny_of_eq (KBy.special_eq look_bytes) ?_)
  refine wpAny_bind (wpAny_rule ?_)
  refine wpAny_bind (wpAny_of_eq (a := .type "bytes") rfl ?_)
  refine bm_if_true (by decide) ?_
  show wpAny _ _ (if (Value.type "bytes" == Value.type "bytes") = true then _ else _) _ _ _
  refine bm_if_true (by decide) ?_
  first
    | exact wpAny_pure h
    | exact wpAny_bind (wpAny_pure (wpAny_pure h))
theorem call_bytes_same {b : Array UInt8} {t : Tok} {Q : Value → Shared → Prop} (h : Q (.bytes b t) s) : wpAny (model prog w) A (call (.type "bytes") [.bytes b t]) Q E s := by
  refine callType_codes (Q₁ := fun obj s₁ => s₁.TypeIs obj "bytes" ∧ Q obj s₁) F.bm_called (F.bm_typeCall _) F.entry_object_init
    (new_same ⟨PySem.W.typeIs_bytes _ _ _, h⟩) fun obj s₁ h₁ => ?_
  exact ⟨h₁.1, F.args_object_init_2 obj _, object_init_meets F.bm_called.init.lookup F.bm_called.made (by decide) prog w A.in1 _ s₁ ⟨h₁.1, rfl, h₁.2⟩⟩
end
end BA
theorem w_iscan_1 : True := by
  (k_with "call canon" => ((refine' canon_s (hb := (by assumption)) (hl := (by omega)) _ _ _ _ _ _ _ _ _ _ _ _ _ _ _ _ _ (by k_asm) (by k_asm) (by k_asm) (by k_asm) (by k_asm) (by first | assumption | exact rfl) (by ktr_room) (by ktr_units) ?_; intro _ _ _ _ _ _ _; (try dsimp only))))
  (k_with "callWith S" => ((refine' callWithS_K (by k_asm) (by k_is) ?_)))
  trivial
section
variable {w : World} {mean : ExcName → Option Value} {mg mb : Str → Option Value} {news : List (Addr × Obj)} {b : Array UInt8} {tb : Tok} {ks : List Int}
theorem iscan_s (hb : KBw.bInts b = ks) (hl : ks.length ≤ 28) :
    CallS w mean mg mb 208 [.bytes b tb] news 16 200 (fun R => R (.bool (decide (cacc ks ks.length = ks))) news True) := by
  intro dp u gd cn cs a ccd cl outer A₀ base h₀ L m s Q E B F X N T hkk hd hu hret
  refine wpS_call ?_
  k_dflt (walk_at "enter S")
  refine execsS (returnS (compareS (callES ?_)))
  walk_at "go"
  walk_at "callWith S"
  walk_at "go"
  walk_at "call canon"
  walk_at "go"
  refine BA.call_bytes_same ?_
  walk_at "go"
  rename _ = cacc _ _ => hC
  rw [bytes_eqb, hC, hb]
  exact hret _ _ (by k_asm) (by k_asm) trivial
end
end
section
theorem w_plain_0 : True := by
  k_with_none
  (k_with "enter" => (first
      | cell_enter
      | walk_at "enter S"
      | (refine' code_defC (by k_asm) (by k_asm) (by k_asm) (by k_asm) (by k_asm) (by exact rfl) (by exact rfl) (by first | assumption | exact rfl) (by k_is) (by k_is) (by ktr_room) (by first | exact BindsTo.of_eq rfl | exact binds_K (by k_in) rfl (by k_is) rfl rfl rfl) (by exact rfl) (by decide +kernel) ?_ (by exact rfl) (by exact rfl) (by exact rfl); k_whole; intro _ _ _ _ _ _ _ N' Y' B' _ _ l1; (try k_lt l1); k_cells Y'; (try simp only [List.cons_append, List.nil_append] at N'); (try dsimp only); (try k_lift B'); (try k_fold))))
  (k_with "call ref" => ((k_here; k_dflt (first
      | (refine' call_cls0 (by k_asm) (by k_asm) (by k_asm) (by k_is) (by k_is) ?_; k_whole; intro _ _ _ _ _ l1 l2; (try k_lt l1); (try k_lt2 l2); (try k_sweep))
      | (refine' call_cls (by k_asm) (by k_asm) (by k_asm) (by k_is) (by k_is) (by k_is) ?_; k_whole; intro _ _ _ _ _ l1 l2; (try k_lt l1); (try k_lt2 l2); (try k_sweep); walk_at "enter")
      | (refine wpAny_call ?_; walk_at "enter")))))
  (k_with "halt" => ((with_reducible show LCg.CompSrc _ _ _ _ _ _ _ _ _ _ _ _ _ _)))
  (k_with "halt" => ((with_reducible show wpAny _ _ (exec (Stmt.While _ _ _ _) _) _ _ _)))
  (k_with "halt" => ((with_reducible show wpAny _ _ (pyIter _) (fun it s₂ => LoopAtV _ _ _ _ _ _ _ _ _ it s₂) _ _)))
  (k_with "go" => (repeat' ((fail_if_success (walk_at "halt")); first | (k_unfold; (try dsimp only)) | walk1 | (dsimp only; walk1) | (leave1; walk_say "STEP leave1"; (try dsimp only)) | fail "no step")))
  (k_with "compareOp In int bytes" => ((k_here; (with_reducible show wpAny _ _ (compareOp CmpOp.In (Value.int _ _) (Value.bytes _ _)) _ _ _); k_dflt (refine By.in_bytes (by kba_ints) (by omega) (by omega) ?_))))
  (k_with "compareOp NotIn int bytes" => ((k_here; (with_reducible show wpAny _ _ (compareOp CmpOp.NotIn (Value.int _ _) (Value.bytes _ _)) _ _ _); k_dflt (refine By.notin_bytes (by kba_ints) (by omega) (by omega) ?_))))
  (k_with "getMethod bytes" => ((k_here; (with_reducible refine By.find_method ?_))))
  (k_with "call builtin:bytes.find" => ((k_here; k_dflt (first | refine By.find2 (by kba_ints) (by kba_ints2) ?_ | refine By.find4 (by kba_ints) (by kba_ints2) (by omega) (by omega) (by omega) ?_))))
  (k_with "getMethod bytes" => ((k_here; (with_reducible refine By.replace_method ?_))))
  (k_with "call builtin:bytes.replace" => ((k_here; k_dflt (refine By.replace3 (by kba_ints) (by kba_ints2) (by kba_ints2) (by decide) (by omega) (by decide) ?_); intro _ _ _ _ _)))
  trivial
/-- a line without its end -/
def plainK (ks : List Int) : List Int := if ks.drop (ks.length - 2) = [13, 10] then ks.take (ks.length - 2) else if ks.drop (ks.length - 1) = [10] then ks.take (ks.length - 1) else ks
theorem clip_neg (n k : Nat) (hk : 0 < k) : clipAt n (-(k : Int)) = n - k := by
  unfold clipAt
  split <;> omega
theorem drop_all (ks : List Int) (m : Nat) : List.take (ks.length - m) (List.drop m ks) = List.drop m ks := List.take_of_length_le (by rw [List.length_drop]; omega)
theorem cut_tail (ks : List Int) (k : Nat) (hk : 0 < k) : List.take (ks.length - clipAt ks.length (-(k : Int))) (List.drop (clipAt ks.length (-(k : Int))) ks) = ks.drop (ks.length - k) := by
  rw [clip_neg _ _ hk, drop_all]
theorem plain_crlf {ks : List Int} (h : ks.drop (ks.length - 2) = [13, 10]) : plainK ks = ks.take (ks.length - 2) := if_pos h
theorem plain_lf {ks : List Int} (h : ¬ ks.drop (ks.length - 2) = [13, 10]) (h2 : ks.drop (ks.length - 1) = [10]) : plainK ks = ks.take (ks.length - 1) := by unfold plainK; rw [if_neg h, if_pos h2]
theorem plain_no {ks : List Int} (h : ¬ ks.drop (ks.length - 2) = [13, 10]) (h2 : ¬ ks.drop (ks.length - 1) = [10]) : plainK ks = ks := by unfold plainK; rw [if_neg h, if_neg h2]
theorem clip_m2 (n : Nat) : clipAt n (-2) = n - 2 := clip_neg n 2 (by decide)
theorem clip_m1 (n : Nat) : clipAt n (-1) = n - 1 := clip_neg n 1 (by decide)
theorem cut_m2 (ks : List Int) : List.take (ks.length - clipAt ks.length (-2)) (List.drop (clipAt ks.length (-2)) ks) = ks.drop (ks.length - 2) := cut_tail ks 2 (by decide)
theorem cut_m1 (ks : List Int) : List.take (ks.length - clipAt ks.length (-1)) (List.drop (clipAt ks.length (-1)) ks) = ks.drop (ks.length - 1) := cut_tail ks 1 (by decide)
section
variable {w : World} {mean : ExcName → Option Value} {mg mb : Str → Option Value} {news : List (Addr × Obj)} {b : Array UInt8} {tb : Tok} {ks : List Int}
theorem plain_h (hb : KBw.bInts b = ks) (hl : ks.length ≤ 28) :
    Call w mean mg mb 247 [.bytes b tb] news 4 40 (fun R => ∀ r tr, R (.bytes r tr) news (KBw.bInts r = plainK ks)) := by
  intro dp u gd cn cs a ccd cl outer A₀ base h₀ L m s Q E B F X N T hkk hd hu hret
  refine wpAny_call ?_
  k_dflt (walk_at "enter")
  walk_at "go"
  · rename KBw.bInts (KBy.picked b (some _) none) = _ => c1
    rename KBw.bInts (KBy.picked b none _) = _ => c2
    rename (_ == _) = true => h1
    rw [bytes_eqb, c1, cut_m2] at h1
    refine hret _ _ _ _ (by k_asm) (by k_asm) ?_
    rw [c2, plain_crlf (of_decide_eq_true h1), clip_m2]
  · rename KBw.bInts (KBy.picked b none _) = _ => c3
    rename KBw.bInts (KBy.picked b (some (-1)) none) = _ => c2
    rename KBw.bInts (KBy.picked b (some (-2)) none) = _ => c1
    rename (_ == _) = true => h2
    rename (_ == _) = false => h1
    rw [bytes_eqb, c1, cut_m2] at h1
    rw [bytes_eqb, c2, cut_m1] at h2
    refine hret _ _ _ _ (by k_asm) (by k_asm) ?_
    rw [c3, plain_lf (of_decide_eq_false h1) (of_decide_eq_true h2), clip_m1]
  · rename KBw.bInts (KBy.picked b (some (-1)) none) = _ => c2
    rename KBw.bInts (KBy.picked b (some (-2)) none) = _ => c1
    rename (_ == _) = false => h2
    revert h2
    rename (_ == _) = false => h1
    intro h2
    rw [bytes_eqb, c1, cut_m2] at h1
    rw [bytes_eqb, c2, cut_m1] at h2
    refine hret _ _ _ _ (by k_asm) (by k_asm) ?_
    rw [hb, plain_no (of_decide_eq_false h1) (of_decide_eq_false h2)]
end
end
section
section
open LCg
variable {prog : Program} {w : World} {A : Around} {E : Value → Shared → Prop} {s : Shared} {h₀ : Heap} {L : Addr} {m : Str → Option Value} {env : Env}
/-- a value whose iterator is one new object that walks n items -/
def IterOf (prog : Program) (w : World) (A : Around) (xv : Value) (n : Nat) (P : Nat → Value → Prop) : Prop :=
  ∀ (s : Shared) (Q E : Value → Shared → Prop), (∀ (o : Obj) (St : Nat → Heap → Prop), Walks prog w A s.heap.objs.size [s.heap.objs.size] [s.heap.objs.size] n P St →
    (∀ i h, St i h → ∃ o, h.get? s.heap.objs.size = some o) → (∀ i h h' o, St i h → h.get? s.heap.objs.size = some o → h'.get? s.heap.objs.size = some o → St i h') → St 0 (s.heap.push o) →
    Q (.ref s.heap.objs.size) { s with heap := s.heap.push o }) → wpAny (model prog w) A (pyIter xv) Q E s
theorem IterOf.bytes {b : Array UInt8} {t : Tok} (hh : A.handled = none) : IterOf prog w A (.bytes b t) b.size (fun i v => ∃ c u, b[i]? = some c ∧ v = .int (c.toNat : Int) u) := by
  intro s Q E h
  refine KBw.pyIter_bytes (h _ _ (KBw.walks hh _ b t) (fun i h st => let ⟨o, e, _⟩ := st; ⟨o, e⟩) (fun i h h' o st e e' => ?_) ⟨_, Heap.get?_push_size _ rfl, rfl, rfl⟩)
  obtain ⟨o', q, r⟩ := st
  rw [e] at q; cases q
  exact ⟨o, e', r⟩
theorem IterOf.str {x : Str} {t : Tok} (hh : A.handled = none) : IterOf prog w A (.str x t) x.cps.size (SignAt x) := by
  intro s Q E h
  cases ha : x.cps.all (· < 128)
  · refine wpAny_pyIter_wide ha (h _ _ (Walks.strWide hh _ x t) (fun i h st => let ⟨o, e, _⟩ := st; ⟨o, e⟩) (fun i h h' o st e e' => ?_) ⟨_, Heap.get?_push_size _ rfl, rfl, rfl⟩)
    obtain ⟨o', q, r⟩ := st
    rw [e] at q; cases q
    exact ⟨o, e', r⟩
  · refine wpAny_pyIter_ascii ha (h _ _ (Walks.strAscii hh _ x t) (fun i h st => let ⟨o, e, _⟩ := st; ⟨o, e⟩) (fun i h h' o st e e' => ?_) ⟨_, Heap.get?_push_size _ rfl, rfl, rfl⟩)
    obtain ⟨o', q, r⟩ := st
    rw [e] at q; cases q
    exact ⟨o, e', r⟩
/-- what a comprehension over such a value asks -/
def SrcI (prog : Program) (w : World) (A : Around) (h₀ : Heap) (L : Addr) (m : Str → Option Value) (env : Env) (elt : Expr) (x : Str) (scope : Scope) (cl : List (Str × Addr)) (Fin : Shared → List Value → List (Addr × Obj) → Prop) (xv : Value) (s₁ : Shared) : Prop :=
  ∃ n P news, Fr h₀ L s₁.heap m ∧ News h₀ L s₁.heap news ∧ n ≤ sizeLine ∧ IterOf prog w A xv n P ∧
    ∀ s₂ : Shared, (∃ h, s₂ = { s₁ with heap := h }) → CompRest prog w A h₀ L m env elt x scope cl s₂ (fun _ => True) P (Fin s₂) n 0 [] news
theorem SrcI.intro {elt : Expr} {x : Str} {scope : Scope} {cl : List (Str × Addr)} {Fin : Shared → List Value → List (Addr × Obj) → Prop} {xv : Value} {n : Nat} {P : Nat → Value → Prop} {news : List (Addr × Obj)} {s₁ : Shared}
    (it : IterOf prog w A xv n P) (F : Fr h₀ L s₁.heap m) (N : News h₀ L s₁.heap news) (hsz : n ≤ sizeLine)
    (h : ∀ g, CompRest prog w A h₀ L m env elt x scope cl { s₁ with heap := g } (fun _ => True) P (Fin { s₁ with heap := g }) n 0 [] news) : SrcI prog w A h₀ L m env elt x scope cl Fin xv s₁ :=
  ⟨n, P, news, F, N, hsz, it, fun _ ⟨g, e⟩ => e ▸ h g⟩
theorem ListComp_I {elt iter : Expr} {x : Str} {px : Pos} {scope : Scope} {cl : List (Str × Addr)} {pos : Pos} {Q : Value → Shared → Prop} (zF₀ : Fr h₀ L s.heap m)
    (hclos : closureFor scope env = pure cl) (hcell : ∀ y ∈ scope.names, y.2 ≠ .cell) (hkind : scope.kind = .function)
    (hnames : ∀ y ∈ scope.names, y.2 = .local → scope.names.lookup y.1 = some .local) (hx : scope.names.lookup x = some .local)
    (h : wpAny (model prog w) A (eval iter env) (SrcI prog w A h₀ L m env elt x scope cl (fun s₂ => FinE h₀ L m s₂ Q)) E s)
    (hs : ∀ x, foldedSetIterable iter env x = pure x := by intro _; rfl) : wpAny (model prog w) A (eval (.ListComp elt [⟨.Name x px, iter, [], 0⟩] scope pos) env) Q E s := by
  rw [eval_ListComp]
  refine wpAny_comprehension_free (use := none) rfl hs hclos hkind hnames (wpAny_mono h (fun xv s₁ h₁ => ?_) fun _ _ e => e)
  obtain ⟨n, P, news, F, N, hsz, it, R⟩ := h₁
  refine it _ _ _ fun o St W hex hst h0 => ?_
  refine block_U W hsz hex (fun i h h' o nw st e e' _ _ _ => hst i h h' o st e e') hcell hkind hx h0 (fun b hb => ?_)
    (F.keeps fun _ _ e => Heap.get?_push_of_some _ e) (N.grown fun _ _ e => Heap.get?_push_of_some _ e) (Nat.ne_of_lt F.ns.lt) (next_is_new F) (fun p hp => Nat.ne_of_lt (Heap.lt_size (N p hp).1)) trivial (R _ ⟨_, rfl⟩) ?_
  · rw [List.mem_singleton.mp hb]
    show s₁.heap.objs.size < (s₁.heap.push _).objs.size
    rw [Heap.size_push]; exact Nat.lt_succ_self _
  · intro D C h tk m' ys news' F' N' o1 hn hC₀ _ hCL _ hCD offC fin
    refine ⟨m', hn, fun h'' hs'' => fin D h'' tk (F'.change hs'' hCL hC₀) (fun p hp => ⟨hs''.extBut _ _ ?_ (N' p hp).1, (N' p hp).2⟩) o1⟩
    rcases List.mem_cons.mp hp with rfl | hp
    · exact Ne.symm hCD
    · exact offC p hp
end
end
section
theorem w_loop_0 : True := by
  k_with_none
  (k_with "enter" => (first
      | cell_enter
      | walk_at "enter S"
      | (refine' code_defC (by k_asm) (by k_asm) (by k_asm) (by k_asm) (by k_asm) (by exact rfl) (by exact rfl) (by first | assumption | exact rfl) (by k_is) (by k_is) (by ktr_room) (by first | exact BindsTo.of_eq rfl | exact binds_K (by k_in) rfl (by k_is) rfl rfl rfl) (by exact rfl) (by decide +kernel) ?_ (by exact rfl) (by exact rfl) (by exact rfl); k_whole; intro _ _ _ _ _ _ _ N' Y' B' _ _ l1; (try k_lt l1); k_cells Y'; (try simp only [List.cons_append, List.nil_append] at N'); (try dsimp only); (try k_lift B'); (try k_fold))))
  (k_with "call ref" => ((k_here; k_dflt (first
      | (refine' call_cls0 (by k_asm) (by k_asm) (by k_asm) (by k_is) (by k_is) ?_; k_whole; intro _ _ _ _ _ l1 l2; (try k_lt l1); (try k_lt2 l2); (try k_sweep))
      | (refine' call_cls (by k_asm) (by k_asm) (by k_asm) (by k_is) (by k_is) (by k_is) ?_; k_whole; intro _ _ _ _ _ l1 l2; (try k_lt l1); (try k_lt2 l2); (try k_sweep); walk_at "enter")
      | (refine wpAny_call ?_; walk_at "enter")))))
  (k_with "halt" => ((with_reducible show LCg.CompSrc _ _ _ _ _ _ _ _ _ _ _ _ _ _)))
  (k_with "halt" => ((with_reducible show wpAny _ _ (exec (Stmt.While _ _ _ _) _) _ _ _)))
  (k_with "halt" => ((with_reducible show wpAny _ _ (pyIter _) (fun it s₂ => LoopAtV _ _ _ _ _ _ _ _ _ it s₂) _ _)))
  (k_with "go" => (repeat' ((fail_if_success (walk_at "halt")); first | (k_unfold; (try dsimp only)) | walk1 | (dsimp only; walk1) | (leave1; walk_say "STEP leave1"; (try dsimp only)) | fail "no step")))
  (k_with "compareOp In int bytes" => ((k_here; (with_reducible show wpAny _ _ (compareOp CmpOp.In (Value.int _ _) (Value.bytes _ _)) _ _ _); k_dflt (refine By.in_bytes (by kba_ints) (by omega) (by omega) ?_))))
  (k_with "compareOp NotIn int bytes" => ((k_here; (with_reducible show wpAny _ _ (compareOp CmpOp.NotIn (Value.int _ _) (Value.bytes _ _)) _ _ _); k_dflt (refine By.notin_bytes (by kba_ints) (by omega) (by omega) ?_))))
  (k_with "getMethod bytes" => ((k_here; (with_reducible refine By.find_method ?_))))
  (k_with "call builtin:bytes.find" => ((k_here; k_dflt (first | refine By.find2 (by kba_ints) (by kba_ints2) ?_ | refine By.find4 (by kba_ints) (by kba_ints2) (by omega) (by omega) (by omega) ?_))))
  (k_with "getMethod bytes" => ((k_here; (with_reducible refine By.replace_method ?_))))
  (k_with "call builtin:bytes.replace" => ((k_here; k_dflt (refine By.replace3 (by kba_ints) (by kba_ints2) (by kba_ints2) (by decide) (by omega) (by decide) ?_); intro _ _ _ _ _)))
  trivial
section
variable {prog : Program} {w : World} {A : Around} {E : Value → Shared → Prop} {s : Shared} {h₀ : Heap} {env : Env} {x : Str} {body : List Stmt} {Q : Flow → Shared → Prop}
/-- an iterator is made and walks n items; what it leans on beside itself: ex -/
def IterX (prog : Program) (w : World) (A : Around) (xv : Value) (s : Shared) (n : Nat) (P : Nat → Value → Prop) (ex : List (Addr × Obj)) : Prop :=
  ∀ (Q E : Value → Shared → Prop), (∀ (o : Obj) (St : Nat → Heap → Prop), Walks prog w A s.heap.objs.size (s.heap.objs.size :: ex.map (·.1)) [s.heap.objs.size] n P St →
    (∀ i h, St i h → ∃ o, h.get? s.heap.objs.size = some o) → St 0 (s.heap.push o) → Q (.ref s.heap.objs.size) { s with heap := s.heap.push o }) → wpAny (model prog w) A (pyIter xv) Q E s
theorem IterX.of {xv : Value} {n : Nat} {P : Nat → Value → Prop} (it : IterOf prog w A xv n P) : IterX prog w A xv s n P [] := by
  intro Q E h
  exact it s Q E fun o St W hex _ h0 => h o St W hex h0
theorem IterX.list {l : Addr} {vs : List Value} {nl : Nat} (hh : A.handled = none) (hl : s.heap.get? l = some (listOf vs.toArray nl)) : IterX prog w A (.ref l) s vs.length (fun i v => vs[i]? = some v) [(l, listOf vs.toArray nl)] := by
  intro Q E h
  have hls : s.heap.IsList l vs.toArray := ⟨_, hl, rfl, _, rfl⟩
  have hne : l ≠ s.heap.objs.size := Nat.ne_of_lt (Heap.lt_size hl)
  refine wpAny_pyIter_list hls ?_
  have W := Walks.list (prog := prog) (w := w) hh s.heap.objs.size l hne vs.toArray
  simp only [List.size_toArray, List.getElem?_toArray] at W
  exact h _ _ W (fun i h st => by obtain ⟨⟨o, e, _⟩, _⟩ := st; exact ⟨o, e⟩) ⟨⟨_, Heap.get?_push_size _ rfl, rfl, rfl⟩, hls.at fun o e => Heap.get?_push_of_some _ e⟩
theorem IterX.range {r : Addr} {n : Nat} {t₀ u₀ v₀ : Tok} (hh : A.handled = none) (hr : IsRange s.heap r 0 n 1 t₀ u₀ v₀) (hsmall : Builtin.Range.small 0 n 1 = true) (hn : Builtin.Range.rangeSize 0 n 1 = (n : Int)) :
    IterX prog w A (.ref r) s n (fun i v => ∃ t, v = .int i t) [] := by
  intro Q E h
  refine wpAny_pyIter_range hr hsmall ?_
  have W := Walks.range (prog := prog) (w := w) hh s.heap.objs.size 0 1 n
  have e : (fun (i : Nat) (v : Value) => ∃ t, v = .int ((0 : Int) + i * 1) t) = fun i v => ∃ t, v = .int i t := by
    funext i v
    rw [Int.mul_one, Int.zero_add]
  refine h _ _ (e ▸ W) (fun i h st => ⟨_, st⟩) ?_
  rw [hn]
  simpa using Heap.get?_push_size _ rfl
/-- how a turn of a loop ends -/
def TurnX (h₀ : Heap) (L : Addr) (s : Shared) (J : (Str → Option Value) → List (Addr × Obj) → Prop) (I : Addr) (oI : Obj) (Q : Flow → Shared → Prop) (f : Flow) (s₃ : Shared) : Prop :=
  match f with
  | .ret v => Q (.ret v) s₃
  | .brk => Q .next s₃
  | _ => ∃ h' tk' m' nw', s₃ = { s with heap := h', toks := tk' } ∧ Fr h₀ L h' m' ∧ News h₀ L h' ((I, oI) :: nw') ∧ (∀ p ∈ nw', p.1 ≠ I) ∧ J m' nw'
theorem TurnX.next {h₀ : Heap} {L : Addr} {s : Shared} {J : (Str → Option Value) → List (Addr × Obj) → Prop} {I : Addr} {oI : Obj} {Q : Flow → Shared → Prop} {h : Heap} {tk : Nat} {m : Str → Option Value} {nw : List (Addr × Obj)}
    (F : Fr h₀ L h m) (N : News h₀ L h ((I, oI) :: nw)) (off : ∀ p ∈ nw, p.1 ≠ I) (j : J m nw) : TurnX h₀ L s J I oI Q .next { s with heap := h, toks := tk } := ⟨_, _, _, _, rfl, F, N, off, j⟩
/-- a loop by an invariant over the frame and the ledger -/
theorem For_X {xv : Value} {n : Nat} {P : Nat → Value → Prop} {ex news : List (Addr × Obj)} {m₀ : Str → Option Value} (J : Nat → (Str → Option Value) → List (Addr × Obj) → Prop)
    (it : IterX prog w A xv s n P ex) (F : Fr h₀ env.locals s.heap m₀) (N : News h₀ env.locals s.heap news) (h0 : J 0 m₀ news) (hmem : ∀ i m nw, J i m nw → ∀ p ∈ ex, p ∈ nw)
    (turn : ∀ i v m₁ nw I oI h tk, i < n → P i v → J i m₁ nw → (∀ p ∈ nw, p.1 ≠ I) → Fr h₀ env.locals h (fun y => if y = x then some v else m₁ y) → News h₀ env.locals h ((I, oI) :: nw) →
      wpAny (model prog w) A (execs body env) (TurnX h₀ env.locals s (J (i + 1)) I oI Q) E { s with heap := h, toks := tk })
    (done : ∀ h tk m₁ nw, J n m₁ nw → Fr h₀ env.locals h m₁ → News h₀ env.locals h nw → Q .next { s with heap := h, toks := tk }) :
    wpAny (model prog w) A (pyIter xv) (fun it s₂ => LoopAtV prog w A h₀ env x body Q E it s₂) E s := by
  refine it _ _ fun o St W hex hst => ?_
  have hIL : env.locals ≠ s.heap.objs.size := Nat.ne_of_lt F.ns.lt
  have hIn : h₀.get? s.heap.objs.size = none := next_is_new F
  refine ⟨_, _, _, n, P, St, m₀, news, J, rfl, W, ?_, ?_, ?_, hst, F.push _, N.grown fun _ _ e => Heap.get?_push_of_some _ e, h0, ?_, ?_⟩
  · intro hm
    rcases List.mem_cons.mp hm with e | hm
    · exact hIL e
    · obtain ⟨p, hp, e⟩ := List.mem_map.mp hm
      exact (N p (hmem 0 _ _ h0 p hp)).2.1 e
  · intro b hb
    rw [List.mem_singleton.mp hb]; exact hIn
  · intro p hp hI
    exact absurd (Heap.lt_size (N p hp).1) ((List.mem_singleton.mp hI) ▸ Nat.lt_irrefl _)
  · rintro i v m₁ news₁ s₁ own ⟨hh', tk', rfl⟩ hin hP hJ hoff hown hown2 hown3 hst₁ F₁ N₁
    obtain ⟨oI, hoI⟩ := hex _ _ hst₁
    have hmI := hown3 s.heap.objs.size List.mem_cons_self hIn oI hoI
    have hne : ∀ p ∈ news₁, p.1 ≠ s.heap.objs.size := fun p hp e => hoff p hp (List.mem_singleton.mpr e)
    have N₂ : News h₀ env.locals hh' ((s.heap.objs.size, oI) :: news₁) := by
      intro p hp
      rcases List.mem_cons.mp hp with rfl | hp
      · exact N₁ _ (List.mem_append_left _ hmI)
      · exact N₁ _ (List.mem_append_right _ hp)
    refine wpAny_mono (turn i v m₁ news₁ _ oI hh' tk' hin hP hJ hne F₁ N₂) (fun f s₂ p => ?_) fun _ _ e => e
    have fin : (∃ h' tk' m' nw', s₂ = { s with heap := h', toks := tk' } ∧ Fr h₀ env.locals h' m' ∧ News h₀ env.locals h' ((s.heap.objs.size, oI) :: nw') ∧ (∀ p ∈ nw', p.1 ≠ s.heap.objs.size) ∧ J (i + 1) m' nw') →
        LoopStepU h₀ env.locals [s.heap.objs.size] own (J (i + 1)) { s with heap := hh', toks := tk' } .next s₂ := by
      rintro ⟨h', tk, m', nw', e, F', N', hn, hJ'⟩
      refine ⟨rfl, h', tk, m', nw', e, F', fun p hp => ?_, fun p hp hq => hn p hp (List.mem_singleton.mp hq), hJ'⟩
      rcases List.mem_append.mp hp with hp | hp
      · have g := hown2 p hp
        rcases List.mem_cons.mp (hown p hp) with e1 | e1
        · have : p = (s.heap.objs.size, oI) := by
            have g2 := g
            rw [e1] at g2
            have g3 : hh'.get? s.heap.objs.size = some p.2 := g2
            rw [hoI] at g3
            exact Prod.ext e1 (Option.some.inj g3).symm
          rw [this]
          exact N' _ List.mem_cons_self
        · obtain ⟨q, hq, e2⟩ := List.mem_map.mp e1
          have g1 := (N₂ q (List.mem_cons_of_mem _ (hmem i _ _ hJ q hq))).1
          have : p = q := by
            have g2 : hh'.get? p.1 = some p.2 := g
            have g3 : hh'.get? q.1 = some q.2 := g1
            have e3 : q.1 = p.1 := e2
            rw [e3, g2] at g3
            exact Prod.ext e3.symm (Option.some.inj g3)
          rw [this]
          exact N' q (List.mem_cons_of_mem _ (hmem (i + 1) _ _ hJ' q hq))
      · exact N' p (List.mem_cons_of_mem _ hp)
    cases f with
    | ret v => exact .ret p
    | brk => exact .brk p
    | next => exact .next (fin p)
    | cont => exact .cont (fin p)
  · rintro h' tk m' news' F' N' _ hJ
    exact done h' tk m' news' hJ F' N'
end
theorem w_loop_1 : True := by
  (k_with "halt" => ((with_reducible show TurnX _ _ _ _ _ _ _ _ _)))
  trivial
end
section
def isd (k : Int) : Bool := decide (48 ≤ k) && decide (k ≤ 57)
def dval (ds : List Int) : Int := ds.foldl (fun a d => a * 10 + d - 48) 0
namespace By
open NumText
set_option maxRecDepth 100000
theorem dval_nat : ∀ (cs : List Nat) (a : Nat), AllDigits cs → ((cs.foldl (fun acc c => acc * 10 + (c - 48)) a : Nat) : Int) = (cs.map fun (c : Nat) => (c : Int)).foldl (fun a d => a * 10 + d - 48) (a : Int)
  | [], a, _ => rfl
  | c :: cs, a, h => by
    have hc := h.head
    rw [List.foldl_cons, dval_nat cs _ h.tail, List.map_cons, List.foldl_cons]
    congr 1
    omega
theorem read_digits {cs : List Nat} (h : AllDigits cs) (h1 : cs ≠ []) (hl : cs.length ≤ 640) : (int_private% "readNumeral") 0 10 cs = (int_private% "Numeral.value") ((digitsVal cs : Nat) : Int) := by
  rw [readNumeral_ten]
  cases cs with
  | nil => exact absurd rfl h1
  | cons c cs =>
    have hc := h.head
    have es : sign ((c :: cs).dropWhile blank) = (false, c :: cs) := by rw [dropWhile_digits h]; exact sign_of (by omega) (by omega)
    have ec : core (c :: cs) = c :: cs := by
      unfold core
      rw [es]
      show ((c :: cs).reverse.dropWhile blank).reverse = c :: cs
      rw [dropWhile_digits h.reverse, List.reverse_reverse]
    have hsz := push_size (c :: cs) #[]
    have hv := push_foldl (c :: cs) #[]
    rw [ec, es, digits_of h h1, judge_ok (Or.inl rfl) (by rw [hsz]; simp only [Array.size_empty]; omega)]
    unfold worth digitsVal
    rw [hv]
    rfl
theorem bytes_int : typeLookup (.type "bytes") "__int__" = pure none := by rw [typeLookup_type, builtinLookup_eq_fast]; kernel_rfl
theorem bytes_idx : typeLookup (.type "bytes") "__index__" = pure none := by rw [typeLookup_type, builtinLookup_eq_fast]; kernel_rfl
theorem bytes_trunc : typeLookup (.type "bytes") "__trunc__" = pure none := by rw [typeLookup_type, builtinLookup_eq_fast]; kernel_rfl
set_option maxHeartbeats 4000000 in
theorem gives_int {b : Array UInt8} {u : Tok} (h : AllDigits (b.toList.map (·.toNat))) (h1 : b.toList.map (·.toNat) ≠ []) (hl : b.size ≤ 640) : Gives (Builtin.«int.__new__» ⟨[.type "int", .bytes b u], []⟩) (.int ((digitsVal (b.toList.map (·.toNat)) : Nat) : Int)) :=
  .of_wp fun M A E s Q hq => by
    obtain ⟨hp, g, d, tk, os⟩ := s
    have f1 := F.conv_sub_int
    have f2 := F.madeHere_int
    have f3 := bytes_int
    have f4 := bytes_idx
    have f5 := bytes_trunc
    have f6 : typeOf (.bytes b u) = pure (.type "bytes") := rfl
    have hsn : (b.toList.map (·.toNat)).takeWhile (· != 0) = b.toList.map (·.toNat) := takeWhile_all fun c hc => bne_iff_ne.mpr (by have := h c hc; omega)
    have hln : (b.toList.map (·.toNat)).length ≤ 640 := by rw [List.length_map, Array.length_toList]; exact hl
    have hk := KIN.Hid.mk (And.intro hsn (And.intro hln (read_digits h h1 hln)))
    clear hsn hln h h1 hl
    repeat (any_goals (first
      | assumption
      | ((with_reducible show wpAny _ _ ((int_private% "intFromText") _ _ _) _ _ _); refine KIN.wp_text (by rw [hk.out.1]; exact hk.out.2.1) (by rw [hk.out.1]; exact hk.out.2.2) (by rw [hk.out.1]; exact beq_self_eq_true _) ?_)
      | wp_step))
    all_goals first | exact ⟨_, rfl, hq⟩ | skip
section
variable {prog : Program} {w : World} {A : Around} {E : Value → Shared → Prop} {s : Shared} {b : Array UInt8} {ks : List Int} {t : Tok}
theorem int_bytes {Q : Value → Shared → Prop} (hb : KBw.bInts b = ks) (hd : ∀ k ∈ ks, isd k = true) (hne : ks ≠ []) (hl : ks.length ≤ 100) (h : ∀ t' k, Q (.int (dval ks) t') { s with toks := k }) :
    wpAny (model prog w) A (call (.type "int") [.bytes b t]) Q E s := by
  have hm : (b.toList.map (·.toNat)).map (fun (c : Nat) => (c : Int)) = ks := by rw [← hb, List.map_map]; rfl
  have had : AllDigits (b.toList.map (·.toNat)) := fun c hc => by
    have := hd (c : Int) (by rw [← hm]; exact List.mem_map_of_mem hc)
    simp only [isd, Bool.and_eq_true, decide_eq_true_eq] at this
    omega
  have hne' : b.toList.map (·.toNat) ≠ [] := fun e => hne (by rw [← hm, e]; rfl)
  have hsz : b.size = ks.length := by rw [← hb, KBw.ints_length]
  have hv : ((digitsVal (b.toList.map (·.toNat)) : Nat) : Int) = dval ks := by
    rw [← hm]; exact dval_nat _ 0 had
  exact call_int_1 (gives_int had hne' (by omega)).meets (show (Made.int _).post _ s from ⟨rfl, by rw [hv]; exact h _ _⟩)
end
end By
end
section
theorem w_draw_0 : True := by
  k_with_none
  (k_with "enter" => (first
      | cell_enter
      | walk_at "enter S"
      | (refine' code_defC (by k_asm) (by k_asm) (by k_asm) (by k_asm) (by k_asm) (by exact rfl) (by exact rfl) (by first | assumption | exact rfl) (by k_is) (by k_is) (by ktr_room) (by first | exact BindsTo.of_eq rfl | exact binds_K (by k_in) rfl (by k_is) rfl rfl rfl) (by exact rfl) (by decide +kernel) ?_ (by exact rfl) (by exact rfl) (by exact rfl); k_whole; intro _ _ _ _ _ _ _ N' Y' B' _ _ l1; (try k_lt l1); k_cells Y'; (try simp only [List.cons_append, List.nil_append] at N'); (try dsimp only); (try k_lift B'); (try k_fold))))
  (k_with "call ref" => ((k_here; k_dflt (first
      | (refine' call_cls0 (by k_asm) (by k_asm) (by k_asm) (by k_is) (by k_is) ?_; k_whole; intro _ _ _ _ _ l1 l2; (try k_lt l1); (try k_lt2 l2); (try k_sweep))
      | (refine' call_cls (by k_asm) (by k_asm) (by k_asm) (by k_is) (by k_is) (by k_is) ?_; k_whole; intro _ _ _ _ _ l1 l2; (try k_lt l1); (try k_lt2 l2); (try k_sweep); walk_at "enter")
      | (refine wpAny_call ?_; walk_at "enter")))))
  (k_with "halt" => ((with_reducible show LCg.CompSrc _ _ _ _ _ _ _ _ _ _ _ _ _ _)))
  (k_with "halt" => ((with_reducible show wpAny _ _ (exec (Stmt.While _ _ _ _) _) _ _ _)))
  (k_with "halt" => ((with_reducible show wpAny _ _ (pyIter _) (fun it s₂ => LoopAtV _ _ _ _ _ _ _ _ _ it s₂) _ _)))
  (k_with "go" => (repeat' ((fail_if_success (walk_at "halt")); first | (k_unfold; (try dsimp only)) | walk1 | (dsimp only; walk1) | (leave1; walk_say "STEP leave1"; (try dsimp only)) | fail "no step")))
  trivial
theorem fdiv_lo {a b : Int} (ha : 0 ≤ a) (hb : 0 < b) : 0 ≤ a.fdiv b := by
  rw [Int.fdiv_eq_ediv_of_nonneg _ (Int.le_of_lt hb)]; exact Int.ediv_nonneg ha (Int.le_of_lt hb)
theorem fdiv_hi {a b : Int} (ha : 0 ≤ a) (hb : 0 < b) : a.fdiv b ≤ a := by
  rw [Int.fdiv_eq_ediv_of_nonneg _ (Int.le_of_lt hb)]; exact Int.ediv_le_self _ ha
theorem draw_ok {w : World} {mean : ExcName → Option Value} {mg mb : Str → Option Value} {news : List (Addr × Obj)} {pen c : Addr} {g st pl : Int} {t1 t2 t3 : Tok} {n nc : Nat} {vs : List Value} {ns : List Int}
    {lim : Int} {tl : Tok} (hc : c ≠ pen) (hpen : ∀ p ∈ news, p.1 ≠ pen) (hi : IntsAre vs ns) (hlen : ns.length ≤ 48) (hg0 : 0 ≤ g) (hg : g < 10 ^ 240) (hst0 : 0 ≤ st) (hst : st < 2147483647)
    (hpl0 : 0 ≤ pl) (hpl : pl < 1000000) (hl : 0 < lim) (hl' : lim < 1000000) :
    Call w mean mg mb 220 [.ref pen, .int lim tl] ((pen, penO c g st pl t1 t2 t3 n) :: (c, listOf vs.toArray nc) :: news) 1 8
      (fun R => ∀ d td g' st' t1' t2' t3' n', R (.int d td) ((pen, penO c g' st' (pl + 1) t1' t2' t3' n') :: (c, listOf vs.toArray nc) :: news) (0 ≤ d ∧ d < lim ∧ 0 ≤ g' ∧ g' < 10 ^ 240 ∧ 0 ≤ st' ∧ st' < 2147483647)) := by
  intro dp u gd cn cs a ccd cl outer A₀ base h₀ L m s Q E B F X N T hk hd hu hret
  refine wpAny_call ?_
  k_dflt (walk_at "enter")
  k_steps
  all_goals (refine hret _ _ _ _ _ _ _ _ _ _ (by k_asm) (by k_asm) ?_; refine ⟨?_, ?_, ?_, ?_, ?_, ?_⟩)
  all_goals first
    | assumption
    | exact Int.fmod_nonneg_of_pos _ hl
    | exact Int.fmod_lt_of_pos _ hl
    | exact fmod_lo _ (by decide)
    | exact fmod_hi _ (by decide)
    | exact fdiv_lo hg0 hl
    | exact Int.lt_of_le_of_lt (fdiv_hi hg0 hl) hg
    | (refine fdiv_lo (fmod_lo _ (by decide)) hl)
    | skip

/-- a draw from any ledger that holds the pen and its cells -/
theorem draw_upd {w : World} {mean : ExcName → Option Value} {mg mb : Str → Option Value} {news : List (Addr × Obj)} {gl : Obj → List (Addr × Obj)} {pen c : Addr} {g st pl : Int} {t1 t2 t3 : Tok} {n nc : Nat} {vs : List Value} {ns : List Int}
    {lim : Int} {tl : Tok} (U : UpdF pen (penO c g st pl t1 t2 t3 n) news gl) (hc : c ≠ pen) (hm : (c, listOf vs.toArray nc) ∈ news) (hi : IntsAre vs ns) (hlen : ns.length ≤ 48) (hg0 : 0 ≤ g) (hg : g < 10 ^ 240) (hst0 : 0 ≤ st) (hst : st < 2147483647)
    (hpl0 : 0 ≤ pl) (hpl : pl < 1000000) (hl : 0 < lim) (hl' : lim < 1000000) :
    Call w mean mg mb 220 [.ref pen, .int lim tl] news 1 8
      (fun R => ∀ d td g' st' t1' t2' t3' n', R (.int d td) (gl (penO c g' st' (pl + 1) t1' t2' t3' n')) (0 ≤ d ∧ d < lim ∧ 0 ≤ g' ∧ g' < 10 ^ 240 ∧ 0 ≤ st' ∧ st' < 2147483647)) := by
  intro dp u gd cn cs a ccd cl outer A₀ base h₀ L m s Q E B F X N T hk hd hu hret
  obtain ⟨pre, post, rfl, hgl, hpre, hpost⟩ := U.split
  refine draw_ok (news := pre ++ post) (t1 := t1) (t2 := t2) (t3 := t3) (n := n) (nc := nc) hc ?_ hi hlen hg0 hg hst0 hst hpl0 hpl hl hl' dp u gd cn cs a ccd cl outer A₀ base h₀ L m s Q E B F X ?_ T hk hd hu ?_
  · intro p hp
    rcases List.mem_append.mp hp with h | h
    · exact hpre p h
    · exact hpost p h
  · intro p hp
    rcases List.mem_cons.mp hp with rfl | hp
    · exact N _ (List.mem_append.mpr (.inr (.head _)))
    · rcases List.mem_cons.mp hp with rfl | hp
      · exact N _ hm
      · rcases List.mem_append.mp hp with h | h
        · exact N _ (List.mem_append.mpr (.inl h))
        · exact N _ (List.mem_append.mpr (.inr (.tail _ h)))
  · intro d td g' st' t1' t2' t3' n' h' tk' F' N' hP
    refine hret d td g' st' t1' t2' t3' n' h' tk' F' ?_ hP
    rw [hgl]
    intro p hp
    rcases List.mem_append.mp hp with h | h
    · exact N' _ (.tail _ (.tail _ (List.mem_append.mpr (.inl h))))
    · rcases List.mem_cons.mp h with rfl | h
      · exact N' _ (.head _)
      · exact N' _ (.tail _ (.tail _ (List.mem_append.mpr (.inr h))))
theorem w_draw_1 : True := by
  (k_with "call ref" => ((k_here; (with_reducible show wpAny _ _ (PySem.call (Value.ref 220) [Value.ref _, Value.int _ _]) _ _ _); k_dflt (refine' Call.use (by k_asm) (by k_asm) (by k_asm) (by k_asm) (by k_asm) (by first | assumption | exact rfl) (by ktr_room) (by ktr_units) (draw_upd (U := (by k_updF)) (hc := (by k_ne)) (hm := (by k_mem)) (hi := (by assumption)) (hlen := (by assumption)) (hg0 := (by omega)) (hg := (by omega)) (hst0 := (by omega)) (hst := (by omega)) (hpl0 := (by omega)) (hpl := (by omega)) (hl := (by omega)) (hl' := (by omega))) ?_; intro _ _ _ _ _ _ _ _ _ _ _ _ hP'; obtain ⟨_, _, _, _, _, _⟩ := hP'; (try dsimp only); (try k_sweep)))))
  trivial
end
section
theorem w_oct_0 : True := by
  k_with_none
  (k_with "enter" => (first
      | cell_enter
      | walk_at "enter S"
      | (refine' code_defC (by k_asm) (by k_asm) (by k_asm) (by k_asm) (by k_asm) (by exact rfl) (by exact rfl) (by first | assumption | exact rfl) (by k_is) (by k_is) (by ktr_room) (by first | exact BindsTo.of_eq rfl | exact binds_K (by k_in) rfl (by k_is) rfl rfl rfl) (by exact rfl) (by decide +kernel) ?_ (by exact rfl) (by exact rfl) (by exact rfl); k_whole; intro _ _ _ _ _ _ _ N' Y' B' _ _ l1; (try k_lt l1); k_cells Y'; (try simp only [List.cons_append, List.nil_append] at N'); (try dsimp only); (try k_lift B'); (try k_fold))))
  (k_with "call ref" => ((k_here; k_dflt (first
      | (refine' call_cls0 (by k_asm) (by k_asm) (by k_asm) (by k_is) (by k_is) ?_; k_whole; intro _ _ _ _ _ l1 l2; (try k_lt l1); (try k_lt2 l2); (try k_sweep))
      | (refine' call_cls (by k_asm) (by k_asm) (by k_asm) (by k_is) (by k_is) (by k_is) ?_; k_whole; intro _ _ _ _ _ l1 l2; (try k_lt l1); (try k_lt2 l2); (try k_sweep); walk_at "enter")
      | (refine wpAny_call ?_; walk_at "enter")))))
  (k_with "halt" => ((with_reducible show LCg.CompSrc _ _ _ _ _ _ _ _ _ _ _ _ _ _)))
  (k_with "halt" => ((with_reducible show wpAny _ _ (exec (Stmt.While _ _ _ _) _) _ _ _)))
  (k_with "halt" => ((with_reducible show wpAny _ _ (pyIter _) (fun it s₂ => LoopAtV _ _ _ _ _ _ _ _ _ it s₂) _ _)))
  (k_with "go" => (repeat' ((fail_if_success (walk_at "halt")); first | (k_unfold; (try dsimp only)) | walk1 | (dsimp only; walk1) | (leave1; walk_say "STEP leave1"; (try dsimp only)) | fail "no step")))
  (k_with "call ref" => ((k_here; (with_reducible show wpAny _ _ (PySem.call (Value.ref 220) [Value.ref _, Value.int _ _]) _ _ _); k_dflt (refine' Call.use (by k_asm) (by k_asm) (by k_asm) (by k_asm) (by k_asm) (by first | assumption | exact rfl) (by ktr_room) (by ktr_units) (draw_upd (U := (by k_updF)) (hc := (by k_ne)) (hm := (by k_mem)) (hi := (by assumption)) (hlen := (by assumption)) (hg0 := (by omega)) (hg := (by omega)) (hst0 := (by omega)) (hst := (by omega)) (hpl0 := (by omega)) (hpl := (by omega)) (hl := (by omega)) (hl' := (by omega))) ?_; intro _ _ _ _ _ _ _ _ _ _ _ _ hP'; obtain ⟨_, _, _, _, _, _⟩ := hP'; (try dsimp only); (try k_sweep)))))
  trivial
theorem codes_at : ∀ k : Nat, k < 9 → ∃ v t, ([.int 97 471, .int 90 472, .int 48 473, .int 57 474, .int 13 475, .int 10 476, .int 32 477, .int 200 478, .int 122 479] : List Value)[k]? = some (.int v t) ∧ v ∈ ([97, 90, 48, 57, 13, 10, 32, 200, 122] : List Int)
  | 0, _ => ⟨_, _, rfl, by decide⟩
  | 1, _ => ⟨_, _, rfl, by decide⟩
  | 2, _ => ⟨_, _, rfl, by decide⟩
  | 3, _ => ⟨_, _, rfl, by decide⟩
  | 4, _ => ⟨_, _, rfl, by decide⟩
  | 5, _ => ⟨_, _, rfl, by decide⟩
  | 6, _ => ⟨_, _, rfl, by decide⟩
  | 7, _ => ⟨_, _, rfl, by decide⟩
  | 8, _ => ⟨_, _, rfl, by decide⟩
  | n + 9, h => absurd h (by omega)
/-- what the loop over the octets keeps -/
def OctJ (o1 : Addr × Obj) (pen c : Addr) (vs : List Value) (nc : Nat) (news : List (Addr × Obj)) (pl : Int) (i : Nat) (ys : List Value) (nw : List (Addr × Obj)) : Prop :=
  ∀ C : List (Addr × Obj) → Prop, (∀ (bs : List Int) (g st pl' : Int) (t1 t2 t3 : Tok) (n' : Nat), IntsAre ys bs → (∀ b ∈ bs, b ∈ ([97, 90, 48, 57, 13, 10, 32, 200, 122] : List Int)) →
    0 ≤ g → g < 10 ^ 240 → 0 ≤ st → st < 2147483647 → pl + 1 ≤ pl' → pl' ≤ pl + 1 + i → C (o1 :: (pen, penO c g st pl' t1 t2 t3 n') :: (c, listOf vs.toArray nc) :: news)) → C nw
theorem OctJ.intro {o1 : Addr × Obj} {pen c : Addr} {vs : List Value} {nc : Nat} {news : List (Addr × Obj)} {pl : Int} {i : Nat} {ys : List Value} {bs : List Int} {g st pl' : Int} {t1 t2 t3 : Tok} {n' : Nat}
    (h1 : IntsAre ys bs) (h2 : ∀ b ∈ bs, b ∈ ([97, 90, 48, 57, 13, 10, 32, 200, 122] : List Int)) (h3 : 0 ≤ g) (h4 : g < 10 ^ 240) (h5 : 0 ≤ st) (h6 : st < 2147483647) (h7 : pl + 1 ≤ pl') (h8 : pl' ≤ pl + 1 + i) :
    OctJ o1 pen c vs nc news pl i ys (o1 :: (pen, penO c g st pl' t1 t2 t3 n') :: (c, listOf vs.toArray nc) :: news) := fun _ k => k _ _ _ _ _ _ _ _ h1 h2 h3 h4 h5 h6 h7 h8
theorem octets_ok {w : World} {mean : ExcName → Option Value} {mg mb : Str → Option Value} {news : List (Addr × Obj)} {pen c : Addr} {g st pl : Int} {t1 t2 t3 : Tok} {n nc : Nat} {vs : List Value} {ns : List Int}
    {lim : Int} {tl : Tok} (hc : c ≠ pen) (hpen : ∀ p ∈ news, p.1 ≠ pen) (hi : IntsAre vs ns) (hlen : ns.length ≤ 48) (hg0 : 0 ≤ g) (hg : g < 10 ^ 240) (hst0 : 0 ≤ st) (hst : st < 2147483647)
    (hpl0 : 0 ≤ pl) (hpl : pl < 900000) (hl : 0 < lim) (hl' : lim ≤ 15) :
    Call w mean mg mb 226 [.ref pen, .int lim tl] ((pen, penO c g st pl t1 t2 t3 n) :: (c, listOf vs.toArray nc) :: news) 2 16
      (fun R => ∀ (b : Array UInt8) (ks : List Int) td g' st' pl' t1' t2' t3' n', R (.bytes b td) ((pen, penO c g' st' pl' t1' t2' t3' n') :: (c, listOf vs.toArray nc) :: news)
        (KBw.bInts b = ks ∧ ks.length < lim ∧ (∀ x ∈ ks, x ∈ ([97, 90, 48, 57, 13, 10, 32, 200, 122] : List Int)) ∧ 0 ≤ g' ∧ g' < 10 ^ 240 ∧ 0 ≤ st' ∧ st' < 2147483647 ∧ pl ≤ pl' ∧ pl' ≤ pl + 16)) := by
  intro dp u gd cn cs a ccd cl outer A₀ base h₀ L m s Q E B F X N T hk hd hu hret
  refine wpAny_call ?_
  k_dflt (walk_at "enter")
  walk_at "go"
  · rename_i Lf hf1 tkf FG1 X1 T1 o1 ho1 d td g1 st1 u1 u2 u3 n1 h1 tk1 F2 N2 hd0 hd1 hg0' hg1' hs0' hs1' h2 tk2 r1 r2 r3 hr hF hN hkeep
    refine LCg.CompSrc.range (n := d.toNat) (by rfl) hF hN hr (small_one (by omega) (by omega) (by omega) (by omega)) (by rw [show d = ((d.toNat : Nat) : Int) by omega]; exact rangeSize_nat _ _) (by rw [PySem.sizeLine_eq]; omega) ?_
    intro gg
    refine comp_inv (OctJ (Lf + 1, o1) pen c vs nc news pl) ?_ ?_ ?_
    · exact OctJ.intro .nil (fun _ h => (nomatch h)) hg0' hg1' hs0' hs1' (Int.le_refl _) (by omega)
    · rintro i v ys nw I oI C oC D m₂ h tk E' hi' ⟨t9, rfl⟩ hyl hJ hC hx F N off ne
      revert N off
      apply hJ
      clear hJ
      intro bs g st pl' t1 t2 t3 n' hys hbs hg0 hg hst0 hst hp1 hp2 N off
      simp only [LCg.Off3] at off
      k_fold
      obtain ⟨⟨oa1, oa2, oa3⟩, ⟨ob1, ob2, ob3⟩, ⟨oc1, oc2, oc3⟩, off3⟩ := off
      obtain ⟨ne1, ne2, ne3⟩ := ne
      have hi9 : (i : Int) < d := by clear oa1 oa2 oa3 ob1 ob2 ob3 oc1 oc2 oc3 off3 ne1 ne2 ne3 hg hg0; omega
      have hp9 : pl' < 1000000 := by clear oa1 oa2 oa3 ob1 ob2 ob3 oc1 oc2 oc3 off3 ne1 ne2 ne3 hg hg0 hi'; omega
      have hp8 : 0 ≤ pl' := by clear oa1 oa2 oa3 ob1 ob2 ob3 oc1 oc2 oc3 off3 ne1 ne2 ne3 hg hg0 hi'; omega
      walk_at "go"
      rename_i d' td' g'' st'' u1' u2' u3' n'' h'' tk'' F'' N'' e0 e1 e2 e3 e4 e5
      obtain ⟨v, t, hv, hm⟩ := codes_at d'.toNat (by omega)
      k_dflt (refine topList_K (l := [.int 97 471, .int 90 472, .int 48 473, .int 57 474, .int 13 475, .int 10 476, .int 32 477, .int 200 478, .int 122 479]) F'' X1 (by k_is) e0 (by omega) hv ?_)
      k_unfold
      refine LCg.CompEnd.intro F'' N'' ((Lf + 1, o1) :: (pen, penO c g'' st'' (pl' + 1) u1' u2' u3' n'') :: (c, listOf vs.toArray nc) :: news) (fun _ h => h) ⟨⟨oa1, oa2, oa3⟩, ⟨ob1, ob2, ob3⟩, ⟨oc1, oc2, oc3⟩, off3⟩ trivial ?_
      exact OctJ.intro (hys.append (.cons v t .nil)) (fun b hb => (List.mem_append.mp hb).elim (hbs b) (fun h => (List.mem_singleton.mp h) ▸ hm)) e2 e3 e4 e5 (by omega) (by omega)
    · intro ys nw hyl hJ
      apply hJ
      clear hJ
      intro bs g st pl' t1 t2 t3 n' hys hbs hg0 hg hst0 hst hp1 hp2
      walk_at "go"
      rename_i D h tk F1 N1 o1'
      have hin : KBa.In bs := fun b hb => by
        have := hbs b hb
        simp only [List.mem_cons, List.not_mem_nil, or_false] at this
        omega
      have hbl := hys.length
      k_dflt (refine KBa.make_K F1 N1 (by rfl) (News.isList N1 (List.mem_cons_self)) hys hin (by omega) ?_)
      intro h3 t3' k3 F3 N3 _
      walk_at "go"
      exact hret _ bs _ _ _ _ _ _ _ _ _ _ (by k_asm) (cb_drop (by k_asm) (by kcf_all)) ⟨KBa.ints_make hin, by omega, hbs, hg0, hg, hst0, hst, by omega, by omega⟩
/-- octets from any ledger that holds the pen and its cells -/
theorem octets_u {w : World} {mean : ExcName → Option Value} {mg mb : Str → Option Value} {news : List (Addr × Obj)} {gl : Obj → List (Addr × Obj)} {pen c : Addr} {g st pl : Int} {t1 t2 t3 : Tok} {n nc : Nat} {vs : List Value} {ns : List Int}
    {lim : Int} {tl : Tok} (U : UpdF pen (penO c g st pl t1 t2 t3 n) news gl) (hc : c ≠ pen) (hm : (c, listOf vs.toArray nc) ∈ news) (hi : IntsAre vs ns) (hlen : ns.length ≤ 48) (hg0 : 0 ≤ g) (hg : g < 10 ^ 240) (hst0 : 0 ≤ st) (hst : st < 2147483647)
    (hpl0 : 0 ≤ pl) (hpl : pl < 900000) (hl : 0 < lim) (hl' : lim ≤ 15) :
    Call w mean mg mb 226 [.ref pen, .int lim tl] news 2 16
      (fun R => ∀ (b : Array UInt8) (ks : List Int) td g' st' pl' t1' t2' t3' n', R (.bytes b td) (gl (penO c g' st' pl' t1' t2' t3' n'))
        (KBw.bInts b = ks ∧ ks.length < lim ∧ (∀ x ∈ ks, x ∈ ([97, 90, 48, 57, 13, 10, 32, 200, 122] : List Int)) ∧ 0 ≤ g' ∧ g' < 10 ^ 240 ∧ 0 ≤ st' ∧ st' < 2147483647 ∧ pl ≤ pl' ∧ pl' ≤ pl + 16)) :=
  Call.upd (ext := [(c, listOf vs.toArray nc)]) (Ret := fun R => ∀ (b : Array UInt8) (ks : List Int) td g' st' pl' t1' t2' t3' n', R (.bytes b td) (penO c g' st' pl' t1' t2' t3' n')
        (KBw.bInts b = ks ∧ ks.length < lim ∧ (∀ x ∈ ks, x ∈ ([97, 90, 48, 57, 13, 10, 32, 200, 122] : List Int)) ∧ 0 ≤ g' ∧ g' < 10 ^ 240 ∧ 0 ≤ st' ∧ st' < 2147483647 ∧ pl ≤ pl' ∧ pl' ≤ pl + 16))
    U (by intro p hp; rw [List.mem_singleton.mp hp]; exact hm) (fun _ _ h h' b ks td g' st' pl' t1' t2' t3' n' => h _ _ _ (h' b ks td g' st' pl' t1' t2' t3' n')) (fun rest hr => octets_ok hc hr hi hlen hg0 hg hst0 hst hpl0 hpl hl hl')
end
section
theorem w_pen_0 : True := by
  k_with_none
  (k_with "enter" => (first
      | cell_enter
      | walk_at "enter S"
      | (refine' code_defC (by k_asm) (by k_asm) (by k_asm) (by k_asm) (by k_asm) (by exact rfl) (by exact rfl) (by first | assumption | exact rfl) (by k_is) (by k_is) (by ktr_room) (by first | exact BindsTo.of_eq rfl | exact binds_K (by k_in) rfl (by k_is) rfl rfl rfl) (by exact rfl) (by decide +kernel) ?_ (by exact rfl) (by exact rfl) (by exact rfl); k_whole; intro _ _ _ _ _ _ _ N' Y' B' _ _ l1; (try k_lt l1); k_cells Y'; (try simp only [List.cons_append, List.nil_append] at N'); (try dsimp only); (try k_lift B'); (try k_fold))))
  (k_with "call ref" => ((k_here; k_dflt (first
      | (refine' call_cls0 (by k_asm) (by k_asm) (by k_asm) (by k_is) (by k_is) ?_; k_whole; intro _ _ _ _ _ l1 l2; (try k_lt l1); (try k_lt2 l2); (try k_sweep))
      | (refine' call_cls (by k_asm) (by k_asm) (by k_asm) (by k_is) (by k_is) (by k_is) ?_; k_whole; intro _ _ _ _ _ l1 l2; (try k_lt l1); (try k_lt2 l2); (try k_sweep); walk_at "enter")
      | (refine wpAny_call ?_; walk_at "enter")))))
  (k_with "halt" => ((with_reducible show LCg.CompSrc _ _ _ _ _ _ _ _ _ _ _ _ _ _)))
  (k_with "halt" => ((with_reducible show wpAny _ _ (exec (Stmt.While _ _ _ _) _) _ _ _)))
  (k_with "halt" => ((with_reducible show wpAny _ _ (pyIter _) (fun it s₂ => LoopAtV _ _ _ _ _ _ _ _ _ it s₂) _ _)))
  (k_with "go" => (repeat' ((fail_if_success (walk_at "halt")); first | (k_unfold; (try dsimp only)) | walk1 | (dsimp only; walk1) | (leave1; walk_say "STEP leave1"; (try dsimp only)) | fail "no step")))
  (k_with "call ref" => ((k_here; (with_reducible show wpAny _ _ (PySem.call (Value.ref 220) [Value.ref _, Value.int _ _]) _ _ _); k_dflt (refine' Call.use (by k_asm) (by k_asm) (by k_asm) (by k_asm) (by k_asm) (by first | assumption | exact rfl) (by ktr_room) (by ktr_units) (draw_upd (U := (by k_updF)) (hc := (by k_ne)) (hm := (by k_mem)) (hi := (by assumption)) (hlen := (by assumption)) (hg0 := (by omega)) (hg := (by omega)) (hst0 := (by omega)) (hst := (by omega)) (hpl0 := (by omega)) (hpl := (by omega)) (hl := (by omega)) (hl' := (by omega))) ?_; intro _ _ _ _ _ _ _ _ _ _ _ _ hP'; obtain ⟨_, _, _, _, _, _⟩ := hP'; (try dsimp only); (try k_sweep)))))
  trivial
theorem w_pen_1 : True := by
  (k_with "halt" => ((with_reducible show LCg.CompEnd _ _ _ _ _ _ _ _ _ _ _ _ _ _)))
  (k_with "exec Assign cons ListComp" => ((k_here; k_dflt (refine LCg.Assign_ListComp_U (F₀ := by k_asm) (by rfl) (by with_unfolding_all rfl) (by with_unfolding_all rfl) (by decide) (by rfl) (by decide) (by rfl) (by rfl) (by rfl) ?_))))
  trivial
theorem fold_pen {α : Type} (f : Int × Int × α → Int → Int × Int × α) (g0 : Int) (hf : ∀ a n, (f a n).2.1 = a.2.1 ∧ 0 ≤ (f a n).1 ∧ (f a n).1 < 2147483647) :
    ∀ (l : List Int) (s0 : Int) (u : α), 0 ≤ s0 → s0 < 2147483647 → (l.foldl f (s0, g0, u)).2.1 = g0 ∧ 0 ≤ (l.foldl f (s0, g0, u)).1 ∧ (l.foldl f (s0, g0, u)).1 < 2147483647
  | [], s0, u, h0, h1 => ⟨rfl, h0, h1⟩
  | n :: l, s0, u, h0, h1 => by
    rw [List.foldl_cons]
    obtain ⟨e, a, b⟩ := hf (s0, g0, u) n
    have z := fold_pen f g0 hf l (f (s0, g0, u) n).1 (f (s0, g0, u) n).2.2 a b
    have e2 : ((f (s0, g0, u) n).1, g0, (f (s0, g0, u) n).2.2) = f (s0, g0, u) n := Prod.ext rfl (Prod.ext e.symm rfl)
    rw [e2] at z
    exact z
section
variable {α : Type} {f : Int × Int × α → Int → Int × Int × α} {g0 B : Int} {l : List Int} {u : α}
theorem pen_g0 (hf : ∀ a n, (f a n).2.1 = a.2.1 ∧ 0 ≤ (f a n).1 ∧ (f a n).1 < 2147483647) (h : 0 ≤ g0) : 0 ≤ (l.foldl f (1, g0, u)).2.1 := by rw [(fold_pen f g0 hf l 1 u (by decide) (by decide)).1]; exact h
theorem pen_g1 (hf : ∀ a n, (f a n).2.1 = a.2.1 ∧ 0 ≤ (f a n).1 ∧ (f a n).1 < 2147483647) (h : g0 < B) : (l.foldl f (1, g0, u)).2.1 < B := by rw [(fold_pen f g0 hf l 1 u (by decide) (by decide)).1]; exact h
theorem pen_s0 (hf : ∀ a n, (f a n).2.1 = a.2.1 ∧ 0 ≤ (f a n).1 ∧ (f a n).1 < 2147483647) : 0 ≤ (l.foldl f (1, g0, u)).1 := (fold_pen f g0 hf l 1 u (by decide) (by decide)).2.1
theorem pen_s1 (hf : ∀ a n, (f a n).2.1 = a.2.1 ∧ 0 ≤ (f a n).1 ∧ (f a n).1 < 2147483647) : (l.foldl f (1, g0, u)).1 < 2147483647 := (fold_pen f g0 hf l 1 u (by decide) (by decide)).2.2
end
section
variable {w : World} {mean : ExcName → Option Value} {mg mb : Str → Option Value} {news : List (Addr × Obj)} {sc : Addr} {vs : List Value} {ns : List Int} {nc : Nat}
/-- the law's own frame makes the pen: the script is an old list -/
theorem pen_h (hi : IntsAre vs ns) (hl : ns.length ≤ 1048576) (dp u : Nat) (gd : Option (List Code)) (cn : Str) (cs : Scope) (a : Addr) (ccd : Value) (cl : List (Str × Addr)) (outer : List Env) (A₀ : Around) (base h₀ : Heap) (L : Addr) (m : Str → Option Value) (s : Shared) (Q E : Value → Shared → Prop)
    (hm : h₀.IsList sc vs.toArray) (B : Below A₀ base outer h₀) (F : Fr h₀ L s.heap m) (X : (hd.heap_39 w.params).In h₀) (N : News h₀ L s.heap news) (T : Top hd.view_39 (looseW hd.view_39 [Str.ofString "PostError", Str.ofString "line_spans", Str.ofString "_law_codes"]) mean mg mb h₀) (hkk : cs.kind = .function)
    (hd : dp + 8 < recursionLimit) (hu : u + 80 < cLine)
    (hret : ∀ pen c g st t1 t2 t3 n vs' ns' nc' h' tk', Fr h₀ L h' m → News h₀ L h' ((pen, penO c g st 0 t1 t2 t3 n) :: (c, listOf vs'.toArray nc') :: news) →
      (IntsAre vs' ns' ∧ ns'.length ≤ 48 ∧ 0 ≤ g ∧ g < 10 ^ 240 ∧ 0 ≤ st ∧ st < 2147483647 ∧ c < pen ∧ AllLt pen news ∧ LCg.Off1 c news) → Q (.ref pen) { s with heap := h', toks := tk' }) :
    wpAny (model PySem.Challenge.rw_no0362_01.row.prog w) (ktrTop dp u gd cn cs L a ccd cl outer) (call (.ref 213) [.ref sc]) Q E s := by
  refine wpAny_call ?_
  k_dflt (walk_at "enter")
  rename_i g9 L9 h9 FG9 F9 N9 B9 X9 T9
  have hm9 : g9.IsList sc vs.toArray := hm.at fun o e => FG9.keep _ o e
  walk_at "go"
  rename_i Dx wx hx F1 N1 l1 hI hC hL
  have hIl := hI.length
  have h48 : (List.take 48 ns).length ≤ 48 := by rw [List.length_take]; omega
  refine LCg.CompSrc.ledger (by rfl) F1 N1 (List.mem_cons_self) (by rw [PySem.sizeLine_eq, List.size_toArray]; omega) ?_
  intro gg
  refine comp_inv (fun i ys nw => ∃ bs : List Int, IntsAre ys bs ∧ bs.length = i ∧ nw = (Dx, W.listOf wx.toArray 0) :: news) ?_ ?_ ?_
  · exact ⟨[], .nil, rfl, rfl⟩
  · rintro i v ys nw I oI C oC D m₂ h tk E' hi' hv hyl ⟨bs, hys, hbs, rfl⟩ hC hx F N off ne
    simp only [LCg.Off3] at off
    obtain ⟨kk, tt, rfl, hkk2⟩ := IntsAre.at hI i v (by simpa using hv)
    k_fold
    walk_at "go"
    show LCg.CompEnd _ _ _ _ _ _ _ _ _ _ _ _ _ _
    rename Fr _ _ _ _ => F5
    rename News _ _ _ _ => N5
    exact LCg.CompEnd.intro F5 N5 _ (fun _ h => h) off (.inr ⟨_, List.mem_cons_self, rfl, _, rfl⟩) ⟨bs ++ [kk], hys.append (.cons _ _ .nil), by rw [List.length_append, hbs]; rfl, rfl⟩
  · rintro ys nw hyl ⟨bs, hys, hbs, rfl⟩
    have hyb := hys.length
    have hb48 : bs.length ≤ 48 := by rw [hbs, List.size_toArray, hIl]; exact h48
    rcases Nat.eq_zero_or_pos bs.length with hz | hz
    · walk_at "go"
      refine hret _ _ _ _ _ _ _ _ ys bs _ _ _ (by k_asm) (cb_drop (by k_asm) (by kcf_all)) ⟨by assumption, hb48, ?_, ?_, ?_, ?_, ?_, ?_, ?_⟩
      · refine pen_g0 ?_ ?_
        · intro a n
          exact ⟨rfl, fmod_lo _ (by decide), fmod_hi _ (by decide)⟩
        · decide
      · refine pen_g1 ?_ ?_
        · intro a n
          exact ⟨rfl, fmod_lo _ (by decide), fmod_hi _ (by decide)⟩
        · exact Int.pow_pos (by decide)
      · refine pen_s0 ?_
        intro a n
        exact ⟨rfl, fmod_lo _ (by decide), fmod_hi _ (by decide)⟩
      · refine pen_s1 ?_
        intro a n
        exact ⟨rfl, fmod_lo _ (by decide), fmod_hi _ (by decide)⟩
      · rename _ < _ ∧ _ < _ ∧ AllLt _ _ => q
        exact q.1
      · rename _ < _ ∧ _ < _ ∧ AllLt _ _ => q
        exact q.2.2
      · rename _ ∧ LCg.Off1 _ _ => q
        exact q.2
    · walk_at "go"
      · refine hret _ _ _ _ _ _ _ _ ys bs _ _ _ (by k_asm) (cb_drop (by k_asm) (by kcf_all)) ⟨by assumption, hb48, ?_, ?_, ?_, ?_, ?_, ?_, ?_⟩
        · refine pen_g0 ?_ ?_
          · intro a n
            exact ⟨rfl, fmod_lo _ (by decide), fmod_hi _ (by decide)⟩
          · exact fmod_lo _ (by decide)
        · refine pen_g1 ?_ ?_
          · intro a n
            exact ⟨rfl, fmod_lo _ (by decide), fmod_hi _ (by decide)⟩
          · exact fmod_hi _ (by decide)
        · refine pen_s0 ?_
          intro a n
          exact ⟨rfl, fmod_lo _ (by decide), fmod_hi _ (by decide)⟩
        · refine pen_s1 ?_
          intro a n
          exact ⟨rfl, fmod_lo _ (by decide), fmod_hi _ (by decide)⟩
        · rename _ < _ ∧ _ < _ ∧ AllLt _ _ => q
          exact q.1
        · rename _ < _ ∧ _ < _ ∧ AllLt _ _ => q
          exact q.2.2
        · rename _ ∧ LCg.Off1 _ _ => q
          exact q.2
      · refine hret _ _ _ _ _ _ _ _ ys bs _ _ _ (by k_asm) (cb_drop (by k_asm) (by kcf_all)) ⟨by assumption, hb48, ?_, ?_, ?_, ?_, ?_, ?_, ?_⟩
        · refine pen_g0 ?_ ?_
          · intro a n
            exact ⟨rfl, fmod_lo _ (by decide), fmod_hi _ (by decide)⟩
          · decide
        · refine pen_g1 ?_ ?_
          · intro a n
            exact ⟨rfl, fmod_lo _ (by decide), fmod_hi _ (by decide)⟩
          · exact Int.pow_pos (by decide)
        · refine pen_s0 ?_
          intro a n
          exact ⟨rfl, fmod_lo _ (by decide), fmod_hi _ (by decide)⟩
        · refine pen_s1 ?_
          intro a n
          exact ⟨rfl, fmod_lo _ (by decide), fmod_hi _ (by decide)⟩
        · rename _ < _ ∧ _ < _ ∧ AllLt _ _ => q
          exact q.1
        · rename _ < _ ∧ _ < _ ∧ AllLt _ _ => q
          exact q.2.2
        · rename _ ∧ LCg.Off1 _ _ => q
          exact q.2
end
end
section
/-- a line's span: its begin, its end, where the next one begins -/
abbrev Trip := Int × Int × Int
def tripD (t : Trip) : Dat := .tuple [.int t.1, .int t.2.1, .int t.2.2]
/-- the spans from a place on -/
def spansF (ks : List Int) (e : Int) : Nat → Int → List Trip
  | 0, _ => []
  | n + 1, v => if v < e then (match occ (sg ks v e) [10] with
    | none => [(v, e, e)]
    | some j => (v, (if v + j > v ∧ ks.getD (v + j - 1).toNat 0 = 13 then v + j - 1 else v + j), v + j + 1) :: spansF ks e n (v + j + 1)) else []
theorem occ_lt {l ws : List Int} {j : Nat} (h : occ l ws = some j) (hw : ws ≠ []) : j < l.length := by
  have := List.mem_of_find?_eq_some h
  have hp : 0 < ws.length := List.length_pos_iff.mpr hw
  rw [List.mem_range] at this
  omega
theorem occV_in {ks ws : List Int} {v e : Int} (hv : 0 ≤ v) (he : v ≤ e) (he2 : e ≤ ks.length) (hw : ws ≠ []) : (occV (sg ks v e) ws v = -1 ∧ occ (sg ks v e) ws = none) ∨ (∃ j, occ (sg ks v e) ws = some j ∧ occV (sg ks v e) ws v = v + j ∧ v + j < e) := by
  unfold occV
  cases h : occ (sg ks v e) ws with
  | none => exact .inl ⟨rfl, rfl⟩
  | some j =>
    refine .inr ⟨j, rfl, rfl, ?_⟩
    have a := occ_lt h hw
    have b := sg_len hv he he2
    omega
end
section
theorem w_spans_0 : True := by
  k_with_none
  (k_with "enter" => (first
      | cell_enter
      | walk_at "enter S"
      | (refine' code_defC (by k_asm) (by k_asm) (by k_asm) (by k_asm) (by k_asm) (by exact rfl) (by exact rfl) (by first | assumption | exact rfl) (by k_is) (by k_is) (by ktr_room) (by first | exact BindsTo.of_eq rfl | exact binds_K (by k_in) rfl (by k_is) rfl rfl rfl) (by exact rfl) (by decide +kernel) ?_ (by exact rfl) (by exact rfl) (by exact rfl); k_whole; intro _ _ _ _ _ _ _ N' Y' B' _ _ l1; (try k_lt l1); k_cells Y'; (try simp only [List.cons_append, List.nil_append] at N'); (try dsimp only); (try k_lift B'); (try k_fold))))
  (k_with "call ref" => ((k_here; k_dflt (first
      | (refine' call_cls0 (by k_asm) (by k_asm) (by k_asm) (by k_is) (by k_is) ?_; k_whole; intro _ _ _ _ _ l1 l2; (try k_lt l1); (try k_lt2 l2); (try k_sweep))
      | (refine' call_cls (by k_asm) (by k_asm) (by k_asm) (by k_is) (by k_is) (by k_is) ?_; k_whole; intro _ _ _ _ _ l1 l2; (try k_lt l1); (try k_lt2 l2); (try k_sweep); walk_at "enter")
      | (refine wpAny_call ?_; walk_at "enter")))))
  (k_with "halt" => ((with_reducible show LCg.CompSrc _ _ _ _ _ _ _ _ _ _ _ _ _ _)))
  (k_with "halt" => ((with_reducible show wpAny _ _ (exec (Stmt.While _ _ _ _) _) _ _ _)))
  (k_with "halt" => ((with_reducible show wpAny _ _ (pyIter _) (fun it s₂ => LoopAtV _ _ _ _ _ _ _ _ _ it s₂) _ _)))
  (k_with "go" => (repeat' ((fail_if_success (walk_at "halt")); first | (k_unfold; (try dsimp only)) | walk1 | (dsimp only; walk1) | (leave1; walk_say "STEP leave1"; (try dsimp only)) | fail "no step")))
  (k_with "compareOp In int bytes" => ((k_here; (with_reducible show wpAny _ _ (compareOp CmpOp.In (Value.int _ _) (Value.bytes _ _)) _ _ _); k_dflt (refine By.in_bytes (by kba_ints) (by omega) (by omega) ?_))))
  (k_with "compareOp NotIn int bytes" => ((k_here; (with_reducible show wpAny _ _ (compareOp CmpOp.NotIn (Value.int _ _) (Value.bytes _ _)) _ _ _); k_dflt (refine By.notin_bytes (by kba_ints) (by omega) (by omega) ?_))))
  (k_with "getMethod bytes" => ((k_here; (with_reducible refine By.find_method ?_))))
  (k_with "call builtin:bytes.find" => ((k_here; k_dflt (first | refine By.find2 (by kba_ints) (by kba_ints2) ?_ | refine By.find4 (by kba_ints) (by kba_ints2) (by omega) (by omega) (by omega) ?_))))
  trivial
theorem fr_norm3 {h₀ h : Heap} {L : Addr} {x y z : Str} {m m0 : Str → Option Value} (hm : ∀ q, q ≠ x → q ≠ y → q ≠ z → m q = m0 q) (F : Fr h₀ L h m) :
    Fr h₀ L h (fun q => if q = x then m x else if q = y then m y else if q = z then m z else m0 q) := by
  have e : m = fun q => if q = x then m x else if q = y then m y else if q = z then m z else m0 q := by
    funext q
    by_cases hx : q = x
    · rw [if_pos hx, hx]
    · rw [if_neg hx]
      by_cases hy : q = y
      · rw [if_pos hy, hy]
      · rw [if_neg hy]
        by_cases hz : q = z
        · rw [if_pos hz, hz]
        · rw [if_neg hz, hm q hx hy hz]
  rw [← e]; exact F
/-- a while that turns one int name, two names more, and a list of triples -/
theorem While_trip {prog : Program} {w : World} {A : Around} {E : Value → Shared → Prop} {Q : Flow → Shared → Prop} {s : Shared} {env : Env} {h₀ : Heap} {L D : Addr} {test : Expr} {body : List Stmt} {pos : Pos} {mB : Str → Option Value} {news : List (Addr × Obj)} {v₀ : Int} {t₀ : Tok} {n₀ nl₀ : Nat}
    (x y z : Str) (J : Nat → Int → List Trip → Prop) (F : Fr h₀ L s.heap (fun q => if q = x then some (.int v₀ t₀) else mB q)) (N : News h₀ L s.heap ((D, listOf #[] nl₀) :: news)) (hD : ∀ p ∈ news, p.1 ≠ D) (hJ : J n₀ v₀ [])
    (turn : ∀ n v t u1 u2 ys nl tps trs h₁ tk₁, Fr h₀ L h₁ (fun q => if q = x then some (.int v t) else if q = y then u1 else if q = z then u2 else mB q) → News h₀ L h₁ ((D, listOf ys.toArray nl) :: (tps ++ news)) →
      DatAll tps ys (trs.map tripD) → (∀ p ∈ tps ++ news, p.1 ≠ D) → J n v trs →
      wpAny (model prog w) A (isTrue test env (eval test env)) (fun b s₂ =>
        if b = true then wpAny (model prog w) A (execs body env) (WhileStep2 h₀ L s (fun n m nx => ∃ v t ys nl tps trs, m x = some (.int v t) ∧ (∀ q, q ≠ x → q ≠ y → q ≠ z → m q = mB q) ∧ nx = (D, listOf ys.toArray nl) :: (tps ++ news) ∧ DatAll tps ys (trs.map tripD) ∧ (∀ p ∈ tps ++ news, p.1 ≠ D) ∧ J n v trs) Q n) E s₂ else Q .next s₂) E { s with heap := h₁, toks := tk₁ })
    (hE : PassesOwn (model prog w) A env E := by passes_own) :
    wpAny (model prog w) A (exec (.While test body [] pos) env) Q E s := by
  refine While_inv2 (fun n m nx => ∃ v t ys nl tps trs, m x = some (.int v t) ∧ (∀ q, q ≠ x → q ≠ y → q ≠ z → m q = mB q) ∧ nx = (D, listOf ys.toArray nl) :: (tps ++ news) ∧ DatAll tps ys (trs.map tripD) ∧ (∀ p ∈ tps ++ news, p.1 ≠ D) ∧ J n v trs) F N
    ⟨v₀, t₀, [], nl₀, [], [], if_pos rfl, fun q hx _ _ => if_neg hx, rfl, .nil, hD, hJ⟩ ?_ hE
  rintro n m nx h tk F N ⟨v, t, ys, nl, tps, trs, hx, hm, rfl, hd, hD', hj⟩
  have F' := fr_norm3 hm F
  rw [hx] at F'
  exact turn n v t (m y) (m z) ys nl tps trs h tk F' N hd hD' hj
theorem trip_snoc {tps news : List (Addr × Obj)} {D D2 : Addr} {ys : List Value} {trs : List Trip} {a b c : Int} {t1 t2 t3 : Tok} {k : Nat} (hd : DatAll tps ys (trs.map tripD)) (hn : ∀ p ∈ tps ++ news, p.1 ≠ D) (hD : D < D2) :
    DatAll ((D2, ({ cls := .type "tuple", data := .seq #[.int a t1, .int b t2, .int c t3] k } : Obj)) :: tps) (ys ++ [.ref D2]) ((trs ++ [(a, b, c)]).map tripD) ∧ (∀ p ∈ ((D2, ({ cls := .type "tuple", data := .seq #[.int a t1, .int b t2, .int c t3] k } : Obj)) :: tps) ++ news, p.1 ≠ D) := by
  refine ⟨?_, ?_⟩
  · rw [List.map_append]
    refine DatAll.append (hd.mono fun p hp => List.mem_cons_of_mem _ hp) (DatAll.one (DatIn.tuple (vs := [.int a t1, .int b t2, .int c t3]) (n := k) (List.mem_cons_self) (.cons (.int _ _) (.cons (.int _ _) (.cons (.int _ _) .nil)))))
  · intro p hp
    rw [List.cons_append] at hp
    rcases List.mem_cons.mp hp with rfl | hp
    · exact Nat.ne_of_gt hD
    · exact hn p hp
theorem trip_news {h₀ h : Heap} {L D D2 : Addr} {tps news : List (Addr × Obj)} {ys : List Value} {o : Obj} {nl : Nat} (N : News h₀ L h ((D2, o) :: (D, listOf (ys.toArray.push (.ref D2)) nl) :: (tps ++ news))) :
    News h₀ L h ((D, listOf (ys ++ [Value.ref D2]).toArray nl) :: ((D2, o) :: tps ++ news)) := by
  intro p hp
  rcases List.mem_cons.mp hp with rfl | hp
  · have := N _ (.tail _ (.head _))
    rwa [List.push_toArray] at this
  · rw [List.cons_append] at hp
    rcases List.mem_cons.mp hp with rfl | hp
    · exact N _ (.head _)
    · exact N _ (.tail _ (.tail _ hp))
theorem spansF_none {ks : List Int} {e v : Int} {n : Nat} (hv : v < e) (h : occ (sg ks v e) [10] = none) : spansF ks e (n + 1) v = [(v, e, e)] := by
  rw [spansF, if_pos hv, h]
theorem spansF_some {ks : List Int} {e v x : Int} {n j : Nat} (hv : v < e) (h : occ (sg ks v e) [10] = some j) (hx : (if v + (j : Int) > v ∧ ks.getD (v + j - 1).toNat 0 = 13 then v + (j : Int) - 1 else v + j) = x) : spansF ks e (n + 1) v = (v, x, v + j + 1) :: spansF ks e n (v + j + 1) := by
  rw [spansF, if_pos hv, h, ← hx]
theorem spansF_end {ks : List Int} {e v : Int} (n : Nat) (hv : ¬ v < e) : spansF ks e n v = [] := by
  cases n with
  | zero => rfl
  | succ n => rw [spansF, if_neg hv]
theorem spansF_fuel {ks : List Int} {e : Int} (he : e ≤ ks.length) : ∀ (n n2 : Nat) (v : Int), 0 ≤ v → v ≤ e → (e - v).toNat ≤ n → (e - v).toNat ≤ n2 → spansF ks e n v = spansF ks e n2 v
  | 0, n2, v, h0, h1, h2, h3 => by rw [spansF_end 0 (by omega), spansF_end n2 (by omega)]
  | n + 1, 0, v, h0, h1, h2, h3 => by rw [spansF_end 0 (by omega), spansF_end (n + 1) (by omega)]
  | n + 1, n2 + 1, v, h0, h1, h2, h3 => by
    rw [spansF, spansF]
    by_cases hv : v < e
    · rw [if_pos hv, if_pos hv]
      cases ho : occ (sg ks v e) [10] with
      | none => rfl
      | some j =>
        have hj := occ_lt ho (by decide)
        have hl := sg_len h0 h1 he
        simp only
        rw [spansF_fuel he n n2 (v + j + 1) (by omega) (by omega) (by omega) (by omega)]
    · rw [if_neg hv, if_neg hv]
theorem w_spans_1 : True := by
  (k_with "call builtin:list.append" => ((k_here; (with_reducible show wpAny _ _ (call (Value.builtin "list.append") [Value.ref _, Value.ref _]) _ _ _); k_dflt (refine' append_K (by k_asm) (by k_asm) (by k_upd) ?_ (by (rw [List.size_toArray, PySem.sizeLine_eq]; omega))); intro _ _ _; (try k_sweep))))
  trivial
/-- the arithmetic of one turn -/
theorem span_step {ks : List Int} {v e i0 x : Int} {j n : Nat} {trs R : List Trip} (hi0 : 0 ≤ i0) (he2 : e ≤ ks.length) (hl : ks.length ≤ 14) (h0 : i0 ≤ v) (hj1 : v + j < e) (hn : n = (e - v).toNat) (ht : trs.length ≤ (v - i0).toNat)
    (g5 : trs ++ spansF ks e (20 - (v - i0).toNat) v = R) (g6 : spansF ks e (20 - (v - i0).toNat - 1 + 1) v = (v, x, v + j + 1) :: spansF ks e (20 - (v - i0).toNat - 1) (v + j + 1)) :
    (e - (v + j + 1)).toNat < n ∧ i0 ≤ v + j + 1 ∧ v + j + 1 ≤ e ∧ (trs ++ [(v, x, v + j + 1)]).length ≤ (v + j + 1 - i0).toNat ∧ (trs ++ [(v, x, v + j + 1)]) ++ spansF ks e (20 - (v + j + 1 - i0).toNat) (v + j + 1) = R := by
  have a1 : e - i0 ≤ 14 := by omega
  clear hl
  have a2 : 20 - (v - i0).toNat - 1 + 1 = 20 - (v - i0).toNat := by omega
  have g7 : spansF ks e (20 - (v + j + 1 - i0).toNat) (v + j + 1) = spansF ks e (20 - (v - i0).toNat - 1) (v + j + 1) := by
    refine spansF_fuel he2 _ _ _ ?_ ?_ ?_ ?_ <;> omega
  refine ⟨by omega, by omega, by omega, ?_, ?_⟩
  · rw [List.length_append, List.length_singleton]
    omega
  · rw [← g5, ← a2, g6, List.append_assoc, g7]
    rfl
section
variable {w : World} {mean : ExcName → Option Value} {mg mb : Str → Option Value} {news : List (Addr × Obj)} {b : Array UInt8} {tb t1 t2 : Tok} {ks : List Int} {i0 e : Int}
theorem spans_h (hb : KBw.bInts b = ks) (hl : ks.length ≤ 14) (hi0 : 0 ≤ i0) (he : i0 ≤ e) (he2 : e ≤ ks.length) :
    Call w mean mg mb 194 [.bytes b tb, .int i0 t1, .int e t2] news 8 80 (fun R => ∀ D ys nl tps, R (.ref D) ((D, listOf ys.toArray nl) :: (tps ++ news)) (DatAll tps ys ((spansF ks e 20 i0).map tripD) ∧ ∀ p ∈ tps ++ news, p.1 ≠ D)) := by
  intro dp u gd cn cs a ccd cl outer A₀ base h₀ L m s Q E B F X N T hkk hd hu hret
  refine wpAny_call ?_
  k_dflt (walk_at "enter")
  walk_at "go"
  rename Fr _ _ _ _ => F1
  rename News _ _ _ _ => N1
  rename ∀ p ∈ news, _ < _ => l1
  have hne : ¬ (ks.length : Int) < e := by omega
  simp only [if_neg hne] at F1
  refine While_trip (Str.ofString "begin") (Str.ofString "feed") (Str.ofString "last") (n₀ := (e - i0).toNat) (fun n v trs => n = (e - v).toNat ∧ i0 ≤ v ∧ v ≤ e ∧ trs.length ≤ (v - i0).toNat ∧ trs ++ spansF ks e (20 - (v - i0).toNat) v = spansF ks e 20 i0) F1 N1 (fun p hp => Nat.ne_of_lt (l1 p hp)) ⟨rfl, Int.le_refl _, he, Nat.zero_le _, by rw [Int.sub_self]; rfl⟩ ?_
  rintro n v t u1 u2 ys nl tps trs h₁ tk₁ F2 N2 hda hDD ⟨g1, g2, g3, g4, g5⟩
  have g20 : 20 - (v - i0).toNat - 1 + 1 = 20 - (v - i0).toNat := by clear hda hDD g5 g4 g1 F2 N2; omega
  have hyl : ys.length ≤ 20 := by rw [hda.length, List.length_map]; omega
  have hoc := occV_in (ks := ks) (ws := [10]) (v := v) (e := e) (by omega) g3 he2 (by decide)
  have hoc1 : occV (sg ks v e) (List.map (fun c : UInt8 => (c.toNat : Int)) [10]) v < e ∨ e ≤ v := by
    show occV (sg ks v e) [10] v < e ∨ e ≤ v
    rcases hoc with ⟨h, _⟩ | ⟨j, _, h, h2⟩ <;> omega
  walk_at "go"
  · dsimp only [WhileStep2]
    walk_at "go"
    rcases hoc with ⟨h, hn⟩ | ⟨j, hj, h, h2⟩
    · rename Fr _ _ _ _ => F5
      rename News _ _ _ _ => N5
      rename _ < _ ∧ AllLt _ _ => l5
      obtain ⟨z1, z2⟩ := trip_snoc (a := v) (b := e) (c := e) hda hDD l5.1
      have g6 := spansF_none (n := 20 - (v - i0).toNat - 1) (by assumption) hn
      rw [g20] at g6
      rw [g6] at g5
      rw [← g5] at hret
      exact hret _ _ _ _ _ _ F5 (trip_news N5) ⟨z1, z2⟩
    · exfalso
      have q : occV (sg ks v e) (List.map (fun c : UInt8 => (c.toNat : Int)) [10]) v = v + j := h
      omega
  · rcases hoc with ⟨h, _⟩ | ⟨j, hj, h, h2⟩
    · exfalso
      have q : occV (sg ks v e) (List.map (fun c : UInt8 => (c.toNat : Int)) [10]) v = -1 := h
      rename ¬ (occV _ _ _ < 0) => qn
      exact qn (by rw [q]; decide)
    have q0 : occV (sg ks v e) (List.map (fun c : UInt8 => (c.toNat : Int)) [10]) v = v + j := h
    rename ks.getD _ 0 = 13 => q1
    rename v < occV _ _ _ => qv
    rw [q0] at qv
    rename Fr _ _ _ _ => F5
    rename News _ _ _ _ => N5
    rename _ < _ ∧ AllLt _ _ => l5
    rw [q0] at N5 F5
    have g6 := spansF_some (n := 20 - (v - i0).toNat - 1) (x := v + j - 1) (by assumption) hj (by rw [q0] at q1; rw [if_pos ⟨qv, q1⟩])
    obtain ⟨z1, z2⟩ := trip_snoc hda hDD l5.1
    obtain ⟨w1, w2, w3, w4, w5⟩ := span_step hi0 he2 hl g2 h2 g1 g4 g5 g6
    refine step2 F5 (trip_news N5) w1 ⟨v + j + 1, _, _, _, _, _, if_pos rfl, ?_, rfl, z1, z2, rfl, w2, w3, w4, w5⟩
    intro q h1 h2 h3
    simp only [if_neg h1, if_neg h2, if_neg h3]
  · rcases hoc with ⟨h, _⟩ | ⟨j, hj, h, h2⟩
    · exfalso
      have q : occV (sg ks v e) (List.map (fun c : UInt8 => (c.toNat : Int)) [10]) v = -1 := h
      rename ¬ (occV _ _ _ < 0) => qn
      exact qn (by rw [q]; decide)
    have q0 : occV (sg ks v e) (List.map (fun c : UInt8 => (c.toNat : Int)) [10]) v = v + j := h
    rename ks.getD _ 0 ≠ 13 => q1
    rename Fr _ _ _ _ => F5
    rename News _ _ _ _ => N5
    rename _ < _ ∧ AllLt _ _ => l5
    rw [q0] at N5 F5
    have g6 := spansF_some (n := 20 - (v - i0).toNat - 1) (x := v + j) (by assumption) hj (by rw [q0] at q1; rw [if_neg fun q => q1 q.2])
    obtain ⟨z1, z2⟩ := trip_snoc hda hDD l5.1
    obtain ⟨w1, w2, w3, w4, w5⟩ := span_step hi0 he2 hl g2 h2 g1 g4 g5 g6
    refine step2 F5 (trip_news N5) w1 ⟨v + j + 1, _, _, _, _, _, if_pos rfl, ?_, rfl, z1, z2, rfl, w2, w3, w4, w5⟩
    intro q h1 h2 h3
    simp only [if_neg h1, if_neg h2, if_neg h3]
  · rcases hoc with ⟨h, _⟩ | ⟨j, hj, h, h2⟩
    · exfalso
      have q : occV (sg ks v e) (List.map (fun c : UInt8 => (c.toNat : Int)) [10]) v = -1 := h
      rename ¬ (occV _ _ _ < 0) => qn
      exact qn (by rw [q]; decide)
    have q0 : occV (sg ks v e) (List.map (fun c : UInt8 => (c.toNat : Int)) [10]) v = v + j := h
    rename ¬ v < _ => q1
    rename Fr _ _ _ _ => F5
    rename News _ _ _ _ => N5
    rename _ < _ ∧ AllLt _ _ => l5
    rw [q0] at N5 F5
    have g6 := spansF_some (n := 20 - (v - i0).toNat - 1) (x := v + j) (by assumption) hj (by rw [q0] at q1; rw [if_neg fun q => q1 q.1])
    obtain ⟨z1, z2⟩ := trip_snoc hda hDD l5.1
    obtain ⟨w1, w2, w3, w4, w5⟩ := span_step hi0 he2 hl g2 h2 g1 g4 g5 g6
    refine step2 F5 (trip_news N5) w1 ⟨v + j + 1, _, _, _, _, _, if_pos rfl, ?_, rfl, z1, z2, rfl, w2, w3, w4, w5⟩
    intro q h1 h2 h3
    simp only [if_neg h1, if_neg h2, if_neg h3]
  · rename Fr _ _ _ _ => F5
    rename News _ _ _ _ => N5
    rw [spansF_end _ (by assumption), List.append_nil] at g5
    rw [← g5] at hret
    exact hret _ _ _ _ _ _ (by k_asm) N5 ⟨hda, hDD⟩
end
end
section
/-- the lines that _law_lines makes, from the row so far -/
def linesG : List Int → List Int → List (List Int)
  | row, [] => if row = [] then [] else [row]
  | row, c :: cs => if c = 10 then (row ++ [c]) :: linesG [] cs else linesG (row ++ [c]) cs
/-- the law's own spans of its lines -/
def dueG : Int → List (List Int) → List Trip
  | _, [] => []
  | v, l :: ls => (v, v + (plainK l).length, v + l.length) :: dueG (v + l.length) ls
theorem linesG_none : ∀ (l row : List Int), (∀ c ∈ l, c ≠ 10) → linesG row l = if row ++ l = [] then [] else [row ++ l]
  | [], row, _ => by rw [List.append_nil]; rfl
  | c :: cs, row, h => by
    have h1 : c ≠ 10 := h c List.mem_cons_self
    rw [linesG, if_neg h1, linesG_none cs (row ++ [c]) fun d hd => h d (List.mem_cons_of_mem _ hd), List.append_assoc]
    rfl
theorem linesG_some : ∀ (l row r : List Int), (∀ c ∈ l, c ≠ 10) → linesG row (l ++ 10 :: r) = (row ++ l ++ [10]) :: linesG [] r
  | [], row, r, _ => by rw [List.nil_append, linesG, if_pos rfl, List.append_nil]
  | c :: cs, row, r, h => by
    have h1 : c ≠ 10 := h c List.mem_cons_self
    rw [List.cons_append, linesG, if_neg h1, linesG_some cs (row ++ [c]) r fun d hd => h d (List.mem_cons_of_mem _ hd), List.append_assoc, List.append_assoc, List.append_assoc]
    rfl
theorem occ10_none {l : List Int} (h : occ l [10] = none) : ∀ c ∈ l, c ≠ 10 := by
  intro c hc he
  obtain ⟨i, hi, rfl⟩ := List.getElem_of_mem hc
  have := List.find?_eq_none.mp h i (by rw [List.mem_range]; simpa using hi)
  refine this (decide_eq_true ?_)
  rw [List.drop_eq_getElem_cons hi, he]; rfl
theorem occ10_some {l : List Int} {j : Nat} (h : occ l [10] = some j) : ∃ a r, l = a ++ 10 :: r ∧ a.length = j ∧ ∀ c ∈ a, c ≠ 10 := by
  have h1 := List.find?_some h
  have h2 := occ_lt h (by decide)
  simp only [decide_eq_true_eq] at h1
  have h3 : l[j] = 10 := by
    rw [List.drop_eq_getElem_cons h2] at h1
    have q : [l[j]] = [10] := h1
    injection q
  refine ⟨l.take j, l.drop (j + 1), ?_, by rw [List.length_take]; omega, ?_⟩
  · rw [← h3, ← List.drop_eq_getElem_cons h2, List.take_append_drop]
  · intro c hc he
    obtain ⟨i, hi, rfl⟩ := List.getElem_of_mem hc
    rw [List.length_take] at hi
    rw [List.getElem_take] at he
    have h4 : ∀ i, i < j → ¬ decide ((l.drop i).take ([10] : List Int).length = [10]) = true := by
      intro i hij
      rw [occ, List.find?_eq_some_iff_getElem] at h
      obtain ⟨_, k, hk, e, q⟩ := h
      rw [List.getElem_range] at e
      have := q i (by omega)
      rw [List.getElem_range] at this
      simpa using this
    refine h4 i (by omega) (decide_eq_true ?_)
    rw [List.drop_eq_getElem_cons (by omega), he]; rfl
theorem plain_none {l : List Int} (h : ∀ c ∈ l, c ≠ 10) : plainK l = l := by
  refine plain_no (fun q => ?_) (fun q => ?_)
  · exact h 10 (List.mem_of_mem_drop (by rw [q]; exact List.mem_cons_of_mem _ List.mem_cons_self)) rfl
  · exact h 10 (List.mem_of_mem_drop (by rw [q]; exact List.mem_cons_self)) rfl
theorem plain_some (a : List Int) : ((plainK (a ++ [10])).length : Int) = if 0 < a.length ∧ a.getD (a.length - 1) 0 = 13 then (a.length : Int) - 1 else a.length := by
  rcases List.eq_nil_or_concat a with rfl | ⟨b, x, rfl⟩
  · decide
  · rw [List.concat_eq_append]
    have e1 : (b ++ [x] ++ [10]).drop ((b ++ [x] ++ [10]).length - 2) = [x, 10] := by
      rw [List.append_assoc]
      refine List.drop_left' ?_
      simp
    have e2 : (b ++ [x] ++ [10]).drop ((b ++ [x] ++ [10]).length - 1) = [10] := by
      refine List.drop_left' ?_
      simp
    have e3 : (b ++ [x]).getD ((b ++ [x]).length - 1) 0 = x := by simp
    rw [e3]
    by_cases hx : x = 13
    · subst hx
      rw [plain_crlf e1, if_pos ⟨by simp, rfl⟩]
      simp
    · rw [plain_lf (by rw [e1]; intro q; injection q with q _; exact hx q) e2, if_neg (fun q => hx q.2)]
      simp
theorem spans_due {ks : List Int} {e : Int} (he : e ≤ ks.length) : ∀ (n : Nat) (v : Int), 0 ≤ v → v ≤ e → (e - v).toNat ≤ n → spansF ks e n v = dueG v (linesG [] (sg ks v e))
  | 0, v, h0, h1, h2 => by
    obtain rfl : v = e := by omega
    rw [sg_self]; rfl
  | n + 1, v, h0, h1, h2 => by
    rw [spansF]
    by_cases hv : v < e
    · rw [if_pos hv]
      have hl := sg_len h0 h1 he
      cases ho : occ (sg ks v e) [10] with
      | none =>
        have hn := occ10_none ho
        have hne : sg ks v e ≠ [] := fun q => by rw [q] at hl; simp at hl; omega
        rw [linesG_none _ _ hn, List.nil_append, if_neg hne]
        simp only [dueG]
        rw [plain_none hn, hl, show v + (e - v) = e by omega]
      | some j =>
        obtain ⟨a, r, e1, e2, e3⟩ := occ10_some ho
        have hj := occ_lt ho (by decide)
        have er : sg ks (v + j + 1) e = r := by
          have := sg_append (ks := ks) h0 (show v ≤ v + j + 1 by omega) (show v + j + 1 ≤ e by omega)
          have hl2 := sg_len (ks := ks) h0 (show v ≤ v + j + 1 by omega) (by omega)
          have q : (a ++ [10]) ++ r = sg ks v (v + j + 1) ++ sg ks (v + j + 1) e := by rw [← this, e1, List.append_assoc]; rfl
          exact (List.append_inj_right q (by rw [List.length_append, e2]; simp only [List.length_cons, List.length_nil]; omega)).symm
        rw [e1, linesG_some a [] r e3, List.nil_append]
        simp only [dueG]
        have eg : ks.getD (v + j - 1).toNat 0 = a.getD (a.length - 1) 0 ∨ j = 0 := by
          rcases Nat.eq_zero_or_pos j with z | z
          · exact .inr z
          · refine .inl ?_
            have q := sg_get (ks := ks) (i := v) (e := e) (j - 1) h0 he (by omega)
            rw [e1, List.getElem?_append_left (by omega), show v + ((j - 1 : Nat) : Int) = v + j - 1 by omega] at q
            rw [e2, List.getD_eq_getElem?_getD (l := a), q]; rfl
        have el : ((a ++ [10]).length : Int) = j + 1 := by rw [List.length_append, e2]; rfl
        have ep : (if v + (j : Int) > v ∧ ks.getD (v + j - 1).toNat 0 = 13 then v + (j : Int) - 1 else v + j) = v + ((plainK (a ++ [10])).length : Int) := by
          rw [plain_some]
          rcases Nat.eq_zero_or_pos j with z | z
          · rw [if_neg (by omega), if_neg (by omega), e2]
          · rcases eg with eg | eg
            · rw [eg]
              by_cases q : a.getD (a.length - 1) 0 = 13
              · rw [if_pos ⟨by omega, q⟩, if_pos ⟨by omega, q⟩, e2]; omega
              · rw [if_neg (fun x => q x.2), if_neg (fun x => q x.2), e2]
            · omega
        have c3 : (e - (v + j + 1)).toNat ≤ n := by clear eg ep el er e3 e2 e1 hl hj ho h0; omega
        have c2 : v + j + 1 ≤ e := by clear eg ep el er e3 e2 e1 ho h0 h2 c3; omega
        rw [ep, el, spans_due he n (v + j + 1) (by clear eg ep el c2 c3 h2 hl; omega) c2 c3, er, show v + ((j : Int) + 1) = v + j + 1 by omega]
    · obtain rfl : v = e := by omega
      rw [if_neg hv, sg_self]; rfl
end
section
theorem w_llines_0 : True := by
  k_with_none
  (k_with "enter" => (first
      | cell_enter
      | walk_at "enter S"
      | (refine' code_defC (by k_asm) (by k_asm) (by k_asm) (by k_asm) (by k_asm) (by exact rfl) (by exact rfl) (by first | assumption | exact rfl) (by k_is) (by k_is) (by ktr_room) (by first | exact BindsTo.of_eq rfl | exact binds_K (by k_in) rfl (by k_is) rfl rfl rfl) (by exact rfl) (by decide +kernel) ?_ (by exact rfl) (by exact rfl) (by exact rfl); k_whole; intro _ _ _ _ _ _ _ N' Y' B' _ _ l1; (try k_lt l1); k_cells Y'; (try simp only [List.cons_append, List.nil_append] at N'); (try dsimp only); (try k_lift B'); (try k_fold))))
  (k_with "call ref" => ((k_here; k_dflt (first
      | (refine' call_cls0 (by k_asm) (by k_asm) (by k_asm) (by k_is) (by k_is) ?_; k_whole; intro _ _ _ _ _ l1 l2; (try k_lt l1); (try k_lt2 l2); (try k_sweep))
      | (refine' call_cls (by k_asm) (by k_asm) (by k_asm) (by k_is) (by k_is) (by k_is) ?_; k_whole; intro _ _ _ _ _ l1 l2; (try k_lt l1); (try k_lt2 l2); (try k_sweep); walk_at "enter")
      | (refine wpAny_call ?_; walk_at "enter")))))
  (k_with "halt" => ((with_reducible show LCg.CompSrc _ _ _ _ _ _ _ _ _ _ _ _ _ _)))
  (k_with "halt" => ((with_reducible show wpAny _ _ (exec (Stmt.While _ _ _ _) _) _ _ _)))
  (k_with "halt" => ((with_reducible show wpAny _ _ (pyIter _) (fun it s₂ => LoopAtV _ _ _ _ _ _ _ _ _ it s₂) _ _)))
  (k_with "go" => (repeat' ((fail_if_success (walk_at "halt")); first | (k_unfold; (try dsimp only)) | walk1 | (dsimp only; walk1) | (leave1; walk_say "STEP leave1"; (try dsimp only)) | fail "no step")))
  (k_with "compareOp In int bytes" => ((k_here; (with_reducible show wpAny _ _ (compareOp CmpOp.In (Value.int _ _) (Value.bytes _ _)) _ _ _); k_dflt (refine By.in_bytes (by kba_ints) (by omega) (by omega) ?_))))
  (k_with "compareOp NotIn int bytes" => ((k_here; (with_reducible show wpAny _ _ (compareOp CmpOp.NotIn (Value.int _ _) (Value.bytes _ _)) _ _ _); k_dflt (refine By.notin_bytes (by kba_ints) (by omega) (by omega) ?_))))
  (k_with "getMethod bytes" => ((k_here; (with_reducible refine By.find_method ?_))))
  (k_with "call builtin:bytes.find" => ((k_here; k_dflt (first | refine By.find2 (by kba_ints) (by kba_ints2) ?_ | refine By.find4 (by kba_ints) (by kba_ints2) (by omega) (by omega) (by omega) ?_))))
  (k_with "getMethod bytes" => ((k_here; (with_reducible refine By.replace_method ?_))))
  (k_with "call builtin:bytes.replace" => ((k_here; k_dflt (refine By.replace3 (by kba_ints) (by kba_ints2) (by kba_ints2) (by decide) (by omega) (by decide) ?_); intro _ _ _ _ _)))
  (k_with "halt" => ((with_reducible show TurnX _ _ _ _ _ _ _ _ _)))
  trivial
inductive BytesL : List Value → List (List Int) → Prop
  | nil : BytesL [] []
  | cons {b : Array UInt8} {t : Tok} {l : List Int} {vs : List Value} {ls : List (List Int)} (h : KBw.bInts b = l) (r : BytesL vs ls) : BytesL (.bytes b t :: vs) (l :: ls)
theorem BytesL.length {vs : List Value} {ls : List (List Int)} (h : BytesL vs ls) : vs.length = ls.length := by
  induction h with
  | nil => rfl
  | cons _ _ ih => rw [List.length_cons, List.length_cons, ih]
theorem BytesL.snoc {vs : List Value} {ls : List (List Int)} {b : Array UInt8} {t : Tok} {l : List Int} (h : BytesL vs ls) (hb : KBw.bInts b = l) : BytesL (vs ++ [.bytes b t]) (ls ++ [l]) := by
  induction h with
  | nil => exact .cons hb .nil
  | cons h _ ih => exact .cons h ih
theorem fr_norm2 {h₀ h : Heap} {L : Addr} {x y : Str} {a b : Option Value} {m m0 : Str → Option Value} (hy : m y = b) (hm : ∀ q, q ≠ x → q ≠ y → m q = m0 q) (F : Fr h₀ L h (fun q => if q = x then a else m q)) :
    Fr h₀ L h (fun q => if q = x then a else if q = y then b else m0 q) := by
  have e : (fun q => if q = x then a else m q) = fun q => if q = x then a else if q = y then b else m0 q := by
    funext q
    by_cases hx : q = x
    · rw [if_pos hx, if_pos hx]
    · rw [if_neg hx, if_neg hx]
      by_cases hy' : q = y
      · rw [if_pos hy', hy', hy]
      · rw [if_neg hy', hm q hx hy']
  rw [← e]; exact F
theorem fr_norm2' {h₀ h : Heap} {L : Addr} {x y : Str} {b : Option Value} {m m0 : Str → Option Value} (hy : m y = b) (hm : ∀ q, q ≠ x → q ≠ y → m q = m0 q) (F : Fr h₀ L h m) :
    Fr h₀ L h (fun q => if q = x then m x else if q = y then b else m0 q) := by
  have e : m = fun q => if q = x then m x else if q = y then b else m0 q := by
    funext q
    by_cases hx : q = x
    · rw [if_pos hx, hx]
    · rw [if_neg hx]
      by_cases hy' : q = y
      · rw [if_pos hy', hy', hy]
      · rw [if_neg hy', hm q hx hy']
  rw [← e]; exact F
theorem add_L {prog : Program} {w : World} {A : Around} {E : Value → Shared → Prop} {s : Shared} {h₀ : Heap} {L a b : Addr} {m : Str → Option Value} {news : List (Addr × Obj)} {xs zs : List Value} {na nb : Nat} {Q : Value → Shared → Prop}
    (F : Fr h₀ L s.heap m) (N : News h₀ L s.heap news) (ha : (a, listOf xs.toArray na) ∈ news) (hb : (b, listOf zs.toArray nb) ∈ news)
    (h : ∀ D h', Fr h₀ L h' m → News h₀ L h' ((D, listOf (xs ++ zs).toArray 0) :: news) → (∀ p ∈ news, p.1 < D) → Q (.ref D) { s with heap := h' }) (hz : xs.length + zs.length ≤ sizeLine) :
    wpAny (model prog w) A (binaryOp .Add (.ref a) (.ref b)) Q E s :=
  kmk_add_lit F N (News.isList N ha) (News.isList N hb) rfl h hz
theorem news_sub4 {h₀ h : Heap} {L : Addr} {a b c d : Addr × Obj} {l : List (Addr × Obj)} (N : News h₀ L h (a :: b :: c :: d :: l)) : News h₀ L h (b :: a :: d :: l) := by
  intro p hp
  rcases List.mem_cons.mp hp with rfl | hp
  · exact N _ (.tail _ (.head _))
  · rcases List.mem_cons.mp hp with rfl | hp
    · exact N _ (.head _)
    · exact N _ (.tail _ (.tail _ (.tail _ hp)))
def LinesJ (D1 : Addr) (m0 : Str → Option Value) (news : List (Addr × Obj)) (ks : List Int) (i : Nat) (m : Str → Option Value) (nw : List (Addr × Obj)) : Prop :=
  ∀ C : List (Addr × Obj) → Prop, (∀ (ys : List Value) (nl : Nat) (ls : List (List Int)) (rs : List Value) (nr : Nat) (D2 : Addr) (row : List Int), m (Str.ofString "row") = some (.ref D2) → (∀ q, q ≠ Str.ofString "code" → q ≠ Str.ofString "row" → m q = m0 q) → @Ne Nat D2 D1 → (∀ p ∈ news, p.1 ≠ D2) →
    IntsAre rs row → BytesL ys ls → ls.length ≤ i → row.length ≤ i → KBa.In row → ls ++ linesG row (ks.drop i) = linesG [] ks → C ((D2, listOf rs.toArray nr) :: (D1, listOf ys.toArray nl) :: news)) → C nw
theorem LinesJ.intro {D1 : Addr} {m0 : Str → Option Value} {news : List (Addr × Obj)} {ks : List Int} {i : Nat} {m : Str → Option Value} {ys : List Value} {nl : Nat} {ls : List (List Int)} {rs : List Value} {nr : Nat} {D2 : Addr} {row : List Int}
    (h1 : m (Str.ofString "row") = some (.ref D2)) (h2 : ∀ q, q ≠ Str.ofString "code" → q ≠ Str.ofString "row" → m q = m0 q) (h3 : @Ne Nat D2 D1) (h4 : ∀ p ∈ news, p.1 ≠ D2) (h5 : IntsAre rs row) (h6 : BytesL ys ls) (h7 : ls.length ≤ i) (h8 : row.length ≤ i) (h9 : KBa.In row)
    (h10 : ls ++ linesG row (ks.drop i) = linesG [] ks) : LinesJ D1 m0 news ks i m ((D2, listOf rs.toArray nr) :: (D1, listOf ys.toArray nl) :: news) := fun _ k => k _ _ _ _ _ _ _ h1 h2 h3 h4 h5 h6 h7 h8 h9 h10
theorem w_llines_1 : True := by
  (k_with "call builtin:list.append" => ((k_here; (with_reducible show wpAny _ _ (call (Value.builtin "list.append") [Value.ref _, _]) _ _ _); k_dflt (refine' append_K (by k_asm) (by k_asm) (by k_upd) ?_ (by (rw [List.size_toArray, PySem.sizeLine_eq]; omega))); intro _ _ _; (try k_sweep))))
  (k_with "binaryOp Add ref ref" => ((k_here; (with_reducible show wpAny _ _ (binaryOp _ (Value.ref _) (Value.ref _)) _ _ _); k_dflt (refine' add_L (by k_asm) (by k_asm) (by repeat (first | exact List.mem_cons_self | apply List.mem_cons_of_mem)) (by repeat (first | exact List.mem_cons_self | apply List.mem_cons_of_mem)) ?_ (by (simp only [PySem.sizeLine_eq, List.length_cons, List.length_nil]; omega))); intro _ _ _ _ l1; (try k_lt l1); (try k_sweep))))
  trivial
section
variable {w : World} {mean : ExcName → Option Value} {mg mb : Str → Option Value} {news : List (Addr × Obj)} {b : Array UInt8} {tb : Tok} {ks : List Int}
theorem llines_h (hb : KBw.bInts b = ks) (hl : ks.length ≤ 28) :
    Call w mean mg mb 240 [.bytes b tb] news 8 80 (fun R => ∀ D ys nl, R (.ref D) ((D, listOf ys.toArray nl) :: news) (BytesL ys (linesG [] ks) ∧ ∀ p ∈ news, p.1 ≠ D)) := by
  intro dp u gd cn cs a ccd cl outer A₀ base h₀ L m s Q E B F X N T hkk hd hu hret
  refine wpAny_call ?_
  k_dflt (walk_at "enter")
  walk_at "go"
  rename Fr _ _ _ _ => F1
  rename News _ _ _ _ => N1
  rename (∀ p ∈ news, _ < _) => l1
  rename _ < _ ∧ AllLt _ _ => l2
  have hbl : b.size = ks.length := by rw [← hb, KBw.ints_length]
  refine For_X (LinesJ _ _ news ks) (IterX.of (IterOf.bytes (by rfl))) F1 N1 (LinesJ.intro (ys := []) (ls := []) (rs := []) (row := []) rfl (fun _ _ _ => rfl) (Nat.ne_of_gt l2.1) (allLt_ne l2.2) .nil .nil (Nat.zero_le _) (Nat.zero_le _) (fun _ h => nomatch h) rfl) (fun _ _ _ _ p hp => nomatch hp) ?_ ?_
  · rintro i v m₁ nw I oI h tk hi ⟨c, u, hc, rfl⟩ hJ hI F2 N2
    revert hI F2 N2
    apply hJ
    clear hJ
    intro ys nl ls rs nr D2 row hrow hm hD hD2 hrs hys hll hrl hin hg hI F2 N2
    have F3 := fr_norm2 hrow hm F2
    have hk : ks[i]? = some (c.toNat : Int) := by rw [← hb]; exact KBw.ints_get hc
    have hI1 : @Ne Nat D2 I := hI _ (.head _)
    have hI2 : @Ne Nat _ I := hI _ (.tail _ (.head _))
    have hD1 := fun (p : Addr × Obj) (hp : p ∈ news) => Nat.ne_of_lt (l1 p hp)
    have hI3 : ∀ p ∈ news, p.1 ≠ I := fun p hp => hI p (.tail _ (.tail _ hp))
    have h1 : rs.length ≤ 28 := by rw [hrs.length]; omega
    have h2 : ys.length ≤ 28 := by rw [hys.length]; omega
    clear F2
    walk_at "go"
    · rename (c.toNat : Int) = 10 => q1
      rename Fr _ _ _ _ => F5
      rename News _ _ _ _ => N5
      rw [List.push_toArray] at N5
      have hrs2 := hrs.append (.cons c.toNat u .nil)
      have hc0 : KBa.In (row ++ [(c.toNat : Int)]) := fun k hk => by
        rcases List.mem_append.mp hk with hk | hk
        · exact hin k hk
        · rw [List.mem_singleton.mp hk]
          have := c.toNat_lt
          omega
      k_dflt (refine KBa.make_K F5 N5 (by rfl) (News.isList N5 (.tail _ (.head _))) hrs2 hc0 (by rw [List.length_append, List.length_singleton]; omega) ?_)
      intro h3 t3' k3 F6 N6 _
      walk_at "go"
      rename Fr _ _ _ _ => F5
      rename News _ _ _ _ => N5
      rename _ < _ ∧ _ < _ ∧ _ < _ ∧ AllLt _ _ => l5
      rw [List.push_toArray] at N5
      refine TurnX.next F5 (news_sub4 N5) ?_ (LinesJ.intro (ys := ys ++ [_]) (ls := ls ++ [row ++ [(c.toNat : Int)]]) (rs := []) (row := []) ?_ ?_ (Nat.ne_of_gt l5.2.2.1) (allLt_ne l5.2.2.2) .nil (hys.snoc (KBa.ints_make hc0)) (by rw [List.length_append, List.length_singleton]; omega) (Nat.zero_le _) (fun _ h => nomatch h) ?_)
      · intro p hp
        rcases List.mem_cons.mp hp with rfl | hp
        · exact Nat.ne_of_gt l5.1
        · rcases List.mem_cons.mp hp with rfl | hp
          · exact hI2
          · exact hI3 p hp
      · rfl
      · intro q h1 h2
        simp only [if_neg h1, if_neg h2]
      · have hi' : i < ks.length := by omega
        rw [← hg, List.drop_eq_getElem_cons hi', linesG]
        rw [List.getElem?_eq_getElem hi'] at hk
        rw [Option.some.inj hk, if_pos q1, List.append_assoc]
        rfl
    · rename (c.toNat : Int) ≠ 10 => q1
      rename Fr _ _ _ _ => F5
      rename News _ _ _ _ => N5
      rw [List.push_toArray] at N5
      have hc0 : KBa.In (row ++ [(c.toNat : Int)]) := fun k hk => by
        rcases List.mem_append.mp hk with hk | hk
        · exact hin k hk
        · rw [List.mem_singleton.mp hk]
          have := c.toNat_lt
          omega
      refine TurnX.next F5 N5 ?_ (LinesJ.intro (ys := ys) (nl := nl) (ls := ls) (D2 := D2) (row := row ++ [(c.toNat : Int)]) ?_ ?_ hD hD2 (hrs.append (.cons _ _ .nil)) hys (by omega) (by rw [List.length_append, List.length_singleton]; omega) hc0 ?_)
      · intro p hp
        rcases List.mem_cons.mp hp with rfl | hp
        · exact hI1
        · rcases List.mem_cons.mp hp with rfl | hp
          · exact hI2
          · exact hI p (.tail _ (.tail _ hp))
      · rfl
      · intro q h1 h2
        simp only [if_neg h1, if_neg h2]
      · have hi' : i < ks.length := by omega
        rw [← hg, List.drop_eq_getElem_cons hi', linesG]
        rw [List.getElem?_eq_getElem hi'] at hk
        rw [Option.some.inj hk, if_neg q1]
  · intro h tk m₁ nw hJ F2 N2
    revert F2 N2
    apply hJ
    clear hJ
    intro ys nl ls rs nr D2 row hrow hm hD hD2 hrs hys hll hrl hin hg F2 N2
    dsimp only
    have F3 := fr_norm2' hrow hm F2
    have h1 : rs.length ≤ 28 := by rw [hrs.length]; omega
    have h2 : ys.length ≤ 28 := by rw [hys.length]; omega
    clear F2
    rw [hbl, List.drop_length] at hg
    walk_at "go"
    · rename 0 < row.length => q1
      rename Fr _ _ _ _ => F5
      rename News _ _ _ _ => N5
      rename _ < _ ∧ _ < _ ∧ _ < _ ∧ AllLt _ _ => l5
      have hz : ls ++ [row] = linesG [] ks := by
        rw [← hg, linesG, if_neg fun z => by rw [z] at q1; exact Nat.lt_irrefl _ q1]
      refine hret _ _ _ _ _ (by k_asm) (cb_drop N5 (by kcf_all)) ⟨hz ▸ hys.snoc (KBa.ints_make hin), allLt_ne l5.2.2.2⟩
    · rename ¬ 0 < row.length => q1
      rename Fr _ _ _ _ => F5
      rename News _ _ _ _ => N5
      rename _ < _ ∧ _ < _ ∧ _ < _ ∧ AllLt _ _ => l5
      have hz : ls = linesG [] ks := by
        rw [← hg, linesG, if_pos (List.eq_nil_of_length_eq_zero (by omega)), List.append_nil]
      rw [List.append_nil] at N5
      refine hret _ _ _ _ _ (by k_asm) (cb_drop N5 (by kcf_all)) ⟨hz ▸ hys, allLt_ne l5.2.2.2⟩
end
end
section
theorem w_low_0 : True := by
  k_with_none
  (k_with "enter" => (first
      | cell_enter
      | walk_at "enter S"
      | (refine' code_defC (by k_asm) (by k_asm) (by k_asm) (by k_asm) (by k_asm) (by exact rfl) (by exact rfl) (by first | assumption | exact rfl) (by k_is) (by k_is) (by ktr_room) (by first | exact BindsTo.of_eq rfl | exact binds_K (by k_in) rfl (by k_is) rfl rfl rfl) (by exact rfl) (by decide +kernel) ?_ (by exact rfl) (by exact rfl) (by exact rfl); k_whole; intro _ _ _ _ _ _ _ N' Y' B' _ _ l1; (try k_lt l1); k_cells Y'; (try simp only [List.cons_append, List.nil_append] at N'); (try dsimp only); (try k_lift B'); (try k_fold))))
  (k_with "call ref" => ((k_here; k_dflt (first
      | (refine' call_cls0 (by k_asm) (by k_asm) (by k_asm) (by k_is) (by k_is) ?_; k_whole; intro _ _ _ _ _ l1 l2; (try k_lt l1); (try k_lt2 l2); (try k_sweep))
      | (refine' call_cls (by k_asm) (by k_asm) (by k_asm) (by k_is) (by k_is) (by k_is) ?_; k_whole; intro _ _ _ _ _ l1 l2; (try k_lt l1); (try k_lt2 l2); (try k_sweep); walk_at "enter")
      | (refine wpAny_call ?_; walk_at "enter")))))
  (k_with "halt" => ((with_reducible show LCg.CompSrc _ _ _ _ _ _ _ _ _ _ _ _ _ _)))
  (k_with "halt" => ((with_reducible show wpAny _ _ (exec (Stmt.While _ _ _ _) _) _ _ _)))
  (k_with "halt" => ((with_reducible show wpAny _ _ (pyIter _) (fun it s₂ => LoopAtV _ _ _ _ _ _ _ _ _ it s₂) _ _)))
  (k_with "go" => (repeat' ((fail_if_success (walk_at "halt")); first | (k_unfold; (try dsimp only)) | walk1 | (dsimp only; walk1) | (leave1; walk_say "STEP leave1"; (try dsimp only)) | fail "no step")))
  (k_with "compareOp In int bytes" => ((k_here; (with_reducible show wpAny _ _ (compareOp CmpOp.In (Value.int _ _) (Value.bytes _ _)) _ _ _); k_dflt (refine By.in_bytes (by kba_ints) (by omega) (by omega) ?_))))
  (k_with "compareOp NotIn int bytes" => ((k_here; (with_reducible show wpAny _ _ (compareOp CmpOp.NotIn (Value.int _ _) (Value.bytes _ _)) _ _ _); k_dflt (refine By.notin_bytes (by kba_ints) (by omega) (by omega) ?_))))
  (k_with "getMethod bytes" => ((k_here; (with_reducible refine By.find_method ?_))))
  (k_with "call builtin:bytes.find" => ((k_here; k_dflt (first | refine By.find2 (by kba_ints) (by kba_ints2) ?_ | refine By.find4 (by kba_ints) (by kba_ints2) (by omega) (by omega) (by omega) ?_))))
  (k_with "getMethod bytes" => ((k_here; (with_reducible refine By.replace_method ?_))))
  (k_with "call builtin:bytes.replace" => ((k_here; k_dflt (refine By.replace3 (by kba_ints) (by kba_ints2) (by kba_ints2) (by decide) (by omega) (by decide) ?_); intro _ _ _ _ _)))
  (k_with "call ref" => ((k_here; (with_reducible show wpAny _ _ (PySem.call (Value.ref 220) [Value.ref _, Value.int _ _]) _ _ _); k_dflt (refine' Call.use (by k_asm) (by k_asm) (by k_asm) (by k_asm) (by k_asm) (by first | assumption | exact rfl) (by ktr_room) (by ktr_units) (draw_upd (U := (by k_updF)) (hc := (by k_ne)) (hm := (by k_mem)) (hi := (by assumption)) (hlen := (by assumption)) (hg0 := (by omega)) (hg := (by omega)) (hst0 := (by omega)) (hst := (by omega)) (hpl0 := (by omega)) (hpl := (by omega)) (hl := (by omega)) (hl' := (by omega))) ?_; intro _ _ _ _ _ _ _ _ _ _ _ _ hP'; obtain ⟨_, _, _, _, _, _⟩ := hP'; (try dsimp only); (try k_sweep)))))
  trivial
theorem w_low_1 : True := by
  (k_with "halt" => ((with_reducible show SrcI _ _ _ _ _ _ _ _ _ _ _ _ _ _)))
  (k_with "halt" => ((with_reducible show LCg.CompEnd _ _ _ _ _ _ _ _ _ _ _ _ _ _)))
  (k_with "eval ListComp" => ((k_here; k_dflt (refine ListComp_I (zF₀ := by k_asm) (by with_unfolding_all rfl) (by decide) (by rfl) (by decide) (by rfl) ?_))))
  trivial
/-- the small letter of a capital one of ASCII -/
def lowK (k : Int) : Int := if 65 ≤ k ∧ k ≤ 90 then k + 32 else k
theorem take_snoc {α β : Type} (f : α → β) {ks : List α} {i : Nat} {k : α} (h : ks[i]? = some k) : (ks.take (i + 1)).map f = (ks.take i).map f ++ [f k] := by
  rw [List.take_add_one, h]
  simp
theorem low_in {k : Int} (h : 65 ≤ k) (h2 : k ≤ 90) : lowK k = k + 32 := if_pos ⟨h, h2⟩
theorem low_lo {k : Int} (h : ¬ 65 ≤ k) : lowK k = k := if_neg fun x => h x.1
theorem low_hi {k : Int} (h : ¬ k ≤ 90) : lowK k = k := if_neg fun x => h x.2
section
variable {w : World} {mean : ExcName → Option Value} {mg mb : Str → Option Value} {news : List (Addr × Obj)} {b : Array UInt8} {tb : Tok} {ks : List Int}
theorem lower_h (hb : KBw.bInts b = ks) (hl : ks.length ≤ 28) :
    Call w mean mg mb 159 [.bytes b tb] news 8 80 (fun R => ∀ r tr, R (.bytes r tr) news (KBw.bInts r = ks.map lowK)) := by
  intro dp u gd cn cs a ccd cl outer A₀ base h₀ L m s Q E B F X N T hkk hd hu hret
  refine wpAny_call ?_
  k_dflt (walk_at "enter")
  walk_at "go"
  have hbl : b.size = ks.length := by rw [← hb, KBw.ints_length]
  refine SrcI.intro (IterOf.bytes (by rfl)) (by k_asm) (by k_asm) (by rw [PySem.sizeLine_eq]; omega) ?_
  intro gg
  refine comp_inv (fun i ys nw => IntsAre ys ((ks.take i).map lowK) ∧ nw = news) ?_ ?_ ?_
  · exact ⟨.nil, rfl⟩
  · rintro i v ys nw I oI C oC D m₂ h tk E' hi' ⟨c, uu, hc, rfl⟩ hyl ⟨hys, rfl⟩ hC hx F N off ne
    k_fold
    have hk : ks[i]? = some (c.toNat : Int) := by rw [← hb]; exact KBw.ints_get hc
    walk_at "go"
    · show LCg.CompEnd _ _ _ _ _ _ _ _ _ _ _ _ _ _
      rename Fr _ _ _ _ => F5
      rename News _ _ _ _ => N5
      refine LCg.CompEnd.intro F5 N5 _ (fun _ h => h) off trivial ⟨?_, rfl⟩
      rw [take_snoc lowK hk, low_in (by assumption) (by assumption)]
      exact hys.append (.cons _ _ .nil)
    · show LCg.CompEnd _ _ _ _ _ _ _ _ _ _ _ _ _ _
      rename Fr _ _ _ _ => F5
      rename News _ _ _ _ => N5
      refine LCg.CompEnd.intro F5 N5 _ (fun _ h => h) off trivial ⟨?_, rfl⟩
      rw [take_snoc lowK hk, low_hi (by assumption)]
      exact hys.append (.cons _ _ .nil)
    · show LCg.CompEnd _ _ _ _ _ _ _ _ _ _ _ _ _ _
      rename Fr _ _ _ _ => F5
      rename News _ _ _ _ => N5
      refine LCg.CompEnd.intro F5 N5 _ (fun _ h => h) off trivial ⟨?_, rfl⟩
      rw [take_snoc lowK hk, low_lo (by assumption)]
      exact hys.append (.cons _ _ .nil)
  · rintro ys nw hyl ⟨hys, rfl⟩
    walk_at "go"
    rename_i D h tk F1 N1 o1'
    rw [List.take_of_length_le (by omega)] at hys
    have hin : KBa.In (ks.map lowK) := fun k hk => by
      obtain ⟨k0, h0, rfl⟩ := List.mem_map.mp hk
      have := KBw.ints_in (b := b) (by rw [hb]; exact h0)
      unfold lowK
      split <;> omega
    have hyl2 := hys.length
    k_dflt (refine KBa.make_K F1 N1 (by rfl) (News.isList N1 (List.mem_cons_self)) hys hin (by rw [List.length_map]; omega) ?_)
    intro h3 t3' k3 F3 N3 _
    walk_at "go"
    exact hret _ _ _ _ (by k_asm) (cb_drop (by k_asm) (by kcf_all)) (KBa.ints_make hin)
end
end
section
theorem w_txt_0 : True := by
  k_with_none
  (k_with "enter" => (first
      | cell_enter
      | walk_at "enter S"
      | (refine' code_defC (by k_asm) (by k_asm) (by k_asm) (by k_asm) (by k_asm) (by exact rfl) (by exact rfl) (by first | assumption | exact rfl) (by k_is) (by k_is) (by ktr_room) (by first | exact BindsTo.of_eq rfl | exact binds_K (by k_in) rfl (by k_is) rfl rfl rfl) (by exact rfl) (by decide +kernel) ?_ (by exact rfl) (by exact rfl) (by exact rfl); k_whole; intro _ _ _ _ _ _ _ N' Y' B' _ _ l1; (try k_lt l1); k_cells Y'; (try simp only [List.cons_append, List.nil_append] at N'); (try dsimp only); (try k_lift B'); (try k_fold))))
  (k_with "call ref" => ((k_here; k_dflt (first
      | (refine' call_cls0 (by k_asm) (by k_asm) (by k_asm) (by k_is) (by k_is) ?_; k_whole; intro _ _ _ _ _ l1 l2; (try k_lt l1); (try k_lt2 l2); (try k_sweep))
      | (refine' call_cls (by k_asm) (by k_asm) (by k_asm) (by k_is) (by k_is) (by k_is) ?_; k_whole; intro _ _ _ _ _ l1 l2; (try k_lt l1); (try k_lt2 l2); (try k_sweep); walk_at "enter")
      | (refine wpAny_call ?_; walk_at "enter")))))
  (k_with "halt" => ((with_reducible show LCg.CompSrc _ _ _ _ _ _ _ _ _ _ _ _ _ _)))
  (k_with "halt" => ((with_reducible show wpAny _ _ (exec (Stmt.While _ _ _ _) _) _ _ _)))
  (k_with "halt" => ((with_reducible show wpAny _ _ (pyIter _) (fun it s₂ => LoopAtV _ _ _ _ _ _ _ _ _ it s₂) _ _)))
  (k_with "go" => (repeat' ((fail_if_success (walk_at "halt")); first | (k_unfold; (try dsimp only)) | walk1 | (dsimp only; walk1) | (leave1; walk_say "STEP leave1"; (try dsimp only)) | fail "no step")))
  (k_with "compareOp In int bytes" => ((k_here; (with_reducible show wpAny _ _ (compareOp CmpOp.In (Value.int _ _) (Value.bytes _ _)) _ _ _); k_dflt (refine By.in_bytes (by kba_ints) (by omega) (by omega) ?_))))
  (k_with "compareOp NotIn int bytes" => ((k_here; (with_reducible show wpAny _ _ (compareOp CmpOp.NotIn (Value.int _ _) (Value.bytes _ _)) _ _ _); k_dflt (refine By.notin_bytes (by kba_ints) (by omega) (by omega) ?_))))
  (k_with "getMethod bytes" => ((k_here; (with_reducible refine By.find_method ?_))))
  (k_with "call builtin:bytes.find" => ((k_here; k_dflt (first | refine By.find2 (by kba_ints) (by kba_ints2) ?_ | refine By.find4 (by kba_ints) (by kba_ints2) (by omega) (by omega) (by omega) ?_))))
  (k_with "getMethod bytes" => ((k_here; (with_reducible refine By.replace_method ?_))))
  (k_with "call builtin:bytes.replace" => ((k_here; k_dflt (refine By.replace3 (by kba_ints) (by kba_ints2) (by kba_ints2) (by decide) (by omega) (by decide) ?_); intro _ _ _ _ _)))
  (k_with "call ref" => ((k_here; (with_reducible show wpAny _ _ (PySem.call (Value.ref 220) [Value.ref _, Value.int _ _]) _ _ _); k_dflt (refine' Call.use (by k_asm) (by k_asm) (by k_asm) (by k_asm) (by k_asm) (by first | assumption | exact rfl) (by ktr_room) (by ktr_units) (draw_upd (U := (by k_updF)) (hc := (by k_ne)) (hm := (by k_mem)) (hi := (by assumption)) (hlen := (by assumption)) (hg0 := (by omega)) (hg := (by omega)) (hst0 := (by omega)) (hst := (by omega)) (hpl0 := (by omega)) (hpl := (by omega)) (hl := (by omega)) (hl' := (by omega))) ?_; intro _ _ _ _ _ _ _ _ _ _ _ _ hP'; obtain ⟨_, _, _, _, _, _⟩ := hP'; (try dsimp only); (try k_sweep)))))
  (k_with "halt" => ((with_reducible show SrcI _ _ _ _ _ _ _ _ _ _ _ _ _ _)))
  (k_with "halt" => ((with_reducible show LCg.CompEnd _ _ _ _ _ _ _ _ _ _ _ _ _ _)))
  trivial
/-- a text whose signs have these codes -/
def strK (ks : List Int) : Str := ⟨(ks.map Int.toNat).toArray⟩
def chrK (k : Int) : Str := ⟨#[k.toNat]⟩
theorem strK_len (ks : List Int) : (strK ks).length = ks.length := by
  show ((ks.map Int.toNat).toArray).size = _
  simp
theorem strK_get {ks : List Int} {i c : Nat} (h : (strK ks).cps[i]? = some c) : ∃ k, ks[i]? = some k ∧ k.toNat = c := by
  have h2 : (ks.map Int.toNat)[i]? = some c := by
    have : ((ks.map Int.toNat).toArray)[i]? = some c := h
    simpa using this
  rw [List.getElem?_map] at h2
  cases e : ks[i]? with
  | none => rw [e] at h2; cases h2
  | some k => rw [e] at h2; exact ⟨k, rfl, Option.some.inj h2⟩
theorem glue_chr : ∀ (ks : List Int) (acc : Array Nat), (ks.map chrK).foldl (fun acc p => acc ++ (Str.ofString "").cps ++ p.cps) acc = acc ++ (ks.map Int.toNat).toArray
  | [], acc => by simp
  | k :: ks, acc => by
    rw [List.map_cons, List.foldl_cons, glue_chr ks]
    have e : (Str.ofString "").cps = #[] := rfl
    rw [e]
    simp [chrK]
theorem join_chr (ks : List Int) : Txt.join (Str.ofString "") (ks.map chrK) = strK ks := by
  show Builtin.Str.glued (Str.ofString "") (ks.map chrK) = _
  unfold Builtin.Str.glued
  cases ks with
  | nil => rfl
  | cons k ks =>
    simp only [List.map_cons, List.drop_succ_cons, List.drop_zero, List.headD_cons]
    rw [glue_chr]
    simp [chrK, strK]
theorem chr_sum (ks : List Int) : ((ks.map chrK).map (·.length)).sum = ks.length := by
  induction ks with
  | nil => rfl
  | cons k ks ih =>
    simp only [List.map_cons, List.sum_cons, List.length_cons, ih]
    show 1 + _ = _
    omega
theorem w_txt_1 : True := by
  (k_with "eval ListComp" => ((k_here; k_dflt (refine ListComp_I (zF₀ := by k_asm) (by with_unfolding_all rfl) (by decide) (by rfl) (by decide) (by rfl) ?_))))
  trivial
section
variable {w : World} {mean : ExcName → Option Value} {mg mb : Str → Option Value} {news : List (Addr × Obj)} {tb : Tok} {ks : List Int}
theorem lowtext_h (hk : ∀ k ∈ ks, 0 ≤ k ∧ k < 256) (hl : ks.length ≤ 28) :
    Call w mean mg mb 164 [.str (strK ks) tb] news 8 80 (fun R => ∀ tr, R (.str (strK (ks.map lowK)) tr) news True) := by
  intro dp u gd cn cs a ccd cl outer A₀ base h₀ L m s Q E B F X N T hkk hd hu hret
  refine wpAny_call ?_
  k_dflt (walk_at "enter")
  walk_at "go"
  have hbl := strK_len ks
  refine SrcI.intro (IterOf.str (by rfl)) (by k_asm) (by k_asm) (by show (strK ks).length ≤ _; rw [hbl, PySem.sizeLine_eq]; omega) ?_
  intro gg
  refine comp_inv (fun i ys nw => StrsAre ys ((ks.take i).map fun k => chrK (lowK k)) ∧ nw = news) ?_ ?_ ?_
  · exact ⟨.nil, rfl⟩
  · rintro i v ys nw I oI C oC D m₂ h tk E' hi' ⟨c, uu, hc, rfl⟩ hyl ⟨hys, rfl⟩ hC hx F N off ne
    k_fold
    obtain ⟨k, hki, hkc⟩ := strK_get hc
    have hk9 := hk k (List.mem_of_getElem? hki)
    have hck : (c : Int) = k := by omega
    walk_at "go"
    · show LCg.CompEnd _ _ _ _ _ _ _ _ _ _ _ _ _ _
      rename Fr _ _ _ _ => F5
      rename News _ _ _ _ => N5
      refine LCg.CompEnd.intro F5 N5 _ (fun _ h => h) off trivial ⟨?_, rfl⟩
      rw [take_snoc (fun k => chrK (lowK k)) hki, ← hck, low_in (by assumption) (by assumption)]
      exact hys.append' (.cons _ _ .nil)
    · show LCg.CompEnd _ _ _ _ _ _ _ _ _ _ _ _ _ _
      rename Fr _ _ _ _ => F5
      rename News _ _ _ _ => N5
      refine LCg.CompEnd.intro F5 N5 _ (fun _ h => h) off trivial ⟨?_, rfl⟩
      rw [take_snoc (fun k => chrK (lowK k)) hki, ← hck, low_hi (by assumption)]
      exact hys.append' (.cons _ _ .nil)
    · show LCg.CompEnd _ _ _ _ _ _ _ _ _ _ _ _ _ _
      rename Fr _ _ _ _ => F5
      rename News _ _ _ _ => N5
      refine LCg.CompEnd.intro F5 N5 _ (fun _ h => h) off trivial ⟨?_, rfl⟩
      rw [take_snoc (fun k => chrK (lowK k)) hki, ← hck, low_lo (by assumption)]
      exact hys.append' (.cons _ _ .nil)
  · rintro ys nw hyl ⟨hys, rfl⟩
    walk_at "go"
    rename_i D h tk F1 N1 o1'
    have hyl2 : ys.length = ks.length := by rw [hyl]; exact hbl
    rw [List.take_of_length_le (by rw [← hbl]; exact Nat.le_refl _)] at hys
    have hys' : StrsAre ys ((ks.map lowK).map chrK) := by rw [List.map_map]; exact hys
    k_dflt (refine join_listW (items := ys.toArray) (ys := (ks.map lowK).map chrK) (News.isList N1 (List.mem_cons_self)) (by simpa using hys') (by decide) (by simp only [chr_sum, List.length_map]; omega) ?_)
    intro t9 k9
    rw [join_chr]
    walk_at "go"
    exact hret _ _ _ (by k_asm) (cb_drop (by k_asm) (by kcf_all)) trivial
end
end
section
theorem w_exr_0 : True := by
  k_with_none
  (k_with "enter" => (first
      | cell_enter
      | walk_at "enter S"
      | (refine' code_defC (by k_asm) (by k_asm) (by k_asm) (by k_asm) (by k_asm) (by exact rfl) (by exact rfl) (by first | assumption | exact rfl) (by k_is) (by k_is) (by ktr_room) (by first | exact BindsTo.of_eq rfl | exact binds_K (by k_in) rfl (by k_is) rfl rfl rfl) (by exact rfl) (by decide +kernel) ?_ (by exact rfl) (by exact rfl) (by exact rfl); k_whole; intro _ _ _ _ _ _ _ N' Y' B' _ _ l1; (try k_lt l1); k_cells Y'; (try simp only [List.cons_append, List.nil_append] at N'); (try dsimp only); (try k_lift B'); (try k_fold))))
  (k_with "call ref" => ((k_here; k_dflt (first
      | (refine' call_cls0 (by k_asm) (by k_asm) (by k_asm) (by k_is) (by k_is) ?_; k_whole; intro _ _ _ _ _ l1 l2; (try k_lt l1); (try k_lt2 l2); (try k_sweep))
      | (refine' call_cls (by k_asm) (by k_asm) (by k_asm) (by k_is) (by k_is) (by k_is) ?_; k_whole; intro _ _ _ _ _ l1 l2; (try k_lt l1); (try k_lt2 l2); (try k_sweep); walk_at "enter")
      | (refine wpAny_call ?_; walk_at "enter")))))
  (k_with "halt" => ((with_reducible show LCg.CompSrc _ _ _ _ _ _ _ _ _ _ _ _ _ _)))
  (k_with "halt" => ((with_reducible show wpAny _ _ (exec (Stmt.While _ _ _ _) _) _ _ _)))
  (k_with "halt" => ((with_reducible show wpAny _ _ (pyIter _) (fun it s₂ => LoopAtV _ _ _ _ _ _ _ _ _ it s₂) _ _)))
  (k_with "go" => (repeat' ((fail_if_success (walk_at "halt")); first | (k_unfold; (try dsimp only)) | walk1 | (dsimp only; walk1) | (leave1; walk_say "STEP leave1"; (try dsimp only)) | fail "no step")))
  (k_with "compareOp In int bytes" => ((k_here; (with_reducible show wpAny _ _ (compareOp CmpOp.In (Value.int _ _) (Value.bytes _ _)) _ _ _); k_dflt (refine By.in_bytes (by kba_ints) (by omega) (by omega) ?_))))
  (k_with "compareOp NotIn int bytes" => ((k_here; (with_reducible show wpAny _ _ (compareOp CmpOp.NotIn (Value.int _ _) (Value.bytes _ _)) _ _ _); k_dflt (refine By.notin_bytes (by kba_ints) (by omega) (by omega) ?_))))
  (k_with "getMethod bytes" => ((k_here; (with_reducible refine By.find_method ?_))))
  (k_with "call builtin:bytes.find" => ((k_here; k_dflt (first | refine By.find2 (by kba_ints) (by kba_ints2) ?_ | refine By.find4 (by kba_ints) (by kba_ints2) (by omega) (by omega) (by omega) ?_))))
  (k_with "getMethod bytes" => ((k_here; (with_reducible refine By.replace_method ?_))))
  (k_with "call builtin:bytes.replace" => ((k_here; k_dflt (refine By.replace3 (by kba_ints) (by kba_ints2) (by kba_ints2) (by decide) (by omega) (by decide) ?_); intro _ _ _ _ _)))
  (k_with "halt" => ((with_reducible show wpS _ _ _ _ _ _)))
  (k_with "halt" => ((with_reducible show wpAny _ _ (pyIter _) (fun it s₂ => codeS _ _ _ _ s₂) _ _)))
  (k_with "halt" => ((with_reducible show MethS _ _ _ _ _ _ _ _ _ _ _)))
  (k_with "halt" => ((with_reducible show TurnX _ _ _ _ _ _ _ _ _)))
  (k_with "call ref" => ((k_here; (with_reducible show wpAny _ _ (PySem.call (Value.ref 220) [Value.ref _, Value.int _ _]) _ _ _); k_dflt (refine' Call.use (by k_asm) (by k_asm) (by k_asm) (by k_asm) (by k_asm) (by first | assumption | exact rfl) (by ktr_room) (by ktr_units) (draw_upd (U := (by k_updF)) (hc := (by k_ne)) (hm := (by k_mem)) (hi := (by assumption)) (hlen := (by assumption)) (hg0 := (by omega)) (hg := (by omega)) (hst0 := (by omega)) (hst := (by omega)) (hpl0 := (by omega)) (hpl := (by omega)) (hl := (by omega)) (hl' := (by omega))) ?_; intro _ _ _ _ _ _ _ _ _ _ _ _ hP'; obtain ⟨_, _, _, _, _, _⟩ := hP'; (try dsimp only); (try k_sweep)))))
  (k_with "halt" => ((with_reducible show SrcI _ _ _ _ _ _ _ _ _ _ _ _ _ _)))
  (k_with "halt" => ((with_reducible show LCg.CompEnd _ _ _ _ _ _ _ _ _ _ _ _ _ _)))
  trivial
theorem w_exr_1 : True := by
  (k_with "eval ListComp" => ((k_here; k_dflt (refine ListComp_I (zF₀ := by k_asm) (by with_unfolding_all rfl) (by decide) (by rfl) (by decide) (by rfl) ?_))))
  trivial
section
variable {prog : Program} {w : World} {A : Around} {s : Shared} {E : Value → Shared → Prop} {h₀ : Heap} {L : Addr} {m : Str → Option Value} {news : List (Addr × Obj)} {env : Env}
/-- a fault is made and goes on as an exception -/
def Thrown59 (w : World) (E : Value → Shared → Prop) (v : Value) (s₁ : Shared) : Prop := ∃ e t dd, v = .ref e ∧ (hd.heap_39 w.params).In s₁.heap ∧ s₁.heap.get? e = some (fltO t dd) ∧ E (.ref e) s₁
theorem raise59 {x : Expr} {pos : Pos} {Q : Flow → Shared → Prop} (hh : A.handled = none)
    (h : wpAny (model prog w) A (eval x env) (Thrown59 w E) E s) :
    wpAny (model prog w) A (exec (.Raise (some x) none pos) env) Q E s := by
  have hcB : (Value.ref 59 :: bm59).contains (.type "BaseException") = true := by decide
  rw [arm_exec_Raise]
  simp only [evalOpt, Option.map]
  refine wpAny_bind (wpAny_standAt ?_)
  unfold raiseStmt
  dsimp only
  refine wpAny_bind (wpAny_bind (wpAny_mono h (fun v s₁ h₁ => wpAny_bind (wpAny_standAt (wpAny_pure ?_))) fun _ _ x => x))
  obtain ⟨e, t, dd, rfl, X, he, hE⟩ := h₁
  obtain ⟨hp, g, d, tk, os⟩ := s₁
  have hC := in59 X
  repeat (first | with_reducible refine wpAny_loadPart_at he ?_ | with_reducible refine wpAny_loadPart_at hC ?_ | (with_reducible refine wpAny_isSubtype_exc hC ?_; rw [hcB]) | wp_step)
  exact wpAny_raiseNew_none hh hE
end
theorem w_exr_2 : True := by
  (k_with "exec Raise some none" => ((k_here; k_dflt (refine' raise59 (by rfl) ?_))))
  (k_with "halt" => ((with_reducible show Thrown59 _ _ _ _)))
  trivial
theorem meta_Exception : typeOf (.type "Exception") = pure (.type "type") := by kernel_rfl
theorem w_exr_3 : True := by
  (k_with "getMethod type:Exception" => ((k_here; refine' method_type (by k_asm) (by k_asm) (by exact meta_Exception) (by decide +kernel) (by k_dflt k_is) (by k_handed) ?_)))
  trivial
theorem what59 (w : World) : takerIn (hd.heap_39 w.params) 59 "what" = some none := by k_is
theorem tat59 (w : World) : takerIn (hd.heap_39 w.params) 59 "at" = some none := by k_is
/-- the dict of a fault -/
abbrev fltD (w : World) (x : Str) (i : Int) (tx ti k1 k2 : Tok) : Obj := dictOf [⟨PyData.keyHash w.params (Str.ofString "what"), .str (Str.ofString "what") k1, .str x tx⟩, ⟨PyData.keyHash w.params (Str.ofString "at"), .str (Str.ofString "at") k2, .int i ti⟩] 2
theorem news_rot3 {h₀ h : Heap} {L : Addr} {a b c : Addr × Obj} {l : List (Addr × Obj)} (N : News h₀ L h (a :: b :: c :: l)) : News h₀ L h (b :: a :: l) := by
  intro p hp
  rcases List.mem_cons.mp hp with rfl | hp
  · exact N _ (.tail _ (.head _))
  · rcases List.mem_cons.mp hp with rfl | hp
    · exact N _ (.head _)
    · exact N _ (.tail _ (.tail _ (.tail _ hp)))
section
variable {w : World} {mean : ExcName → Option Value} {mg mb : Str → Option Value} {news : List (Addr × Obj)} {x : Str} {i : Int} {tx ti : Tok}
theorem fault_h : Call w mean mg mb 59 [.str x tx, .int i ti] news 8 80 (fun R => ∀ e t D k1 k2, R (.ref e) ((D, fltD w x i tx ti k1 k2) :: (e, fltO t (some D)) :: (t, argO [.str x tx]) :: news)
    ((∀ p ∈ news, p.1 < e) ∧ @LT.lt Nat _ e t ∧ @LT.lt Nat _ t D)) := by
  intro dp u gd cn cs a ccd cl outer A₀ base h₀ L m s Q E B F X N T hkk hd hu hret
  refine wpAny_call (make59 F X N (by rw [PySem.sizeLine_eq]; exact Nat.le_of_ble_eq_true rfl) ?_)
  intro e t0 h1 F1 N1 l1 l2
  k_dflt (walk_at "enter")
  walk_at "go"
  rename Fr _ _ _ _ => F5
  rename News _ _ _ _ => N5
  have g1 : ∀ p ∈ (t0, argO [.str x tx, .int i ti]) :: news, p.1 < e := by
    intro p hp
    rcases List.mem_cons.mp hp with rfl | hp
    · exact l2
    · exact Nat.lt_trans (l1 p hp) l2
  refine exc_init F5 (by k_asm) N5 (fun p hp => Nat.ne_of_lt (g1 p hp)) (by rw [PySem.sizeLine_eq]; exact Nat.le_of_ble_eq_true rfl) ?_
  intro t h2 F2 N2 l3 l4
  have N3 := news_rot3 N2
  clear N2
  have ht : ∀ p ∈ news, p.1 < t := fun p hp => l3 p (List.mem_cons_of_mem _ hp)
  walk_at "go"
  rename Fr _ _ _ _ => F6
  rename News _ _ _ _ => N6
  rename Frag.In _ _ => X6
  refine setattr59 (X6.keeps F6.keep) (N6 _ (.head _)).1 (set_new F6 X6 N6 ?_ (what59 w) ?_)
  · intro p hp
    rcases List.mem_cons.mp hp with rfl | hp
    · exact Nat.ne_of_gt l4
    · exact Nat.ne_of_lt (g1 p (List.mem_cons_of_mem _ hp))
  intro D h3 F7 N7 l5 l6
  have l7 : @LT.lt Nat _ t D := l5 _ (.head _)
  dsimp only
  walk_at "go"
  rename Fr _ _ _ _ => F8
  rename News _ _ _ _ => N8
  refine setattr59 (X6.keeps F8.keep) (N8 _ (.tail _ (.head _))).1 (set_old F8 X6 N8 ?_ (tat59 w) rfl rfl (Nat.le_of_ble_eq_true rfl) ?_)
  · intro p hp
    rcases List.mem_cons.mp hp with rfl | hp
    · exact Nat.ne_of_lt l6
    · exact Nat.ne_of_lt (l5 p hp)
  intro h4 F9 N9
  dsimp only
  walk_at "go"
  rename Fr h₀ _ _ _ => FA
  rename News h₀ _ _ _ => NA
  exact hret e t D _ _ _ _ (by k_asm) (by k_asm) ⟨fun p hp => g1 p (List.mem_cons_of_mem _ hp), l4, l7⟩
end
end
section
theorem w_up_0 : True := by
  k_with_none
  (k_with "enter" => (first
      | cell_enter
      | walk_at "enter S"
      | (refine' code_defC (by k_asm) (by k_asm) (by k_asm) (by k_asm) (by k_asm) (by exact rfl) (by exact rfl) (by first | assumption | exact rfl) (by k_is) (by k_is) (by ktr_room) (by first | exact BindsTo.of_eq rfl | exact binds_K (by k_in) rfl (by k_is) rfl rfl rfl) (by exact rfl) (by decide +kernel) ?_ (by exact rfl) (by exact rfl) (by exact rfl); k_whole; intro _ _ _ _ _ _ _ N' Y' B' _ _ l1; (try k_lt l1); k_cells Y'; (try simp only [List.cons_append, List.nil_append] at N'); (try dsimp only); (try k_lift B'); (try k_fold))))
  (k_with "call ref" => ((k_here; k_dflt (first
      | (refine' call_cls0 (by k_asm) (by k_asm) (by k_asm) (by k_is) (by k_is) ?_; k_whole; intro _ _ _ _ _ l1 l2; (try k_lt l1); (try k_lt2 l2); (try k_sweep))
      | (refine' call_cls (by k_asm) (by k_asm) (by k_asm) (by k_is) (by k_is) (by k_is) ?_; k_whole; intro _ _ _ _ _ l1 l2; (try k_lt l1); (try k_lt2 l2); (try k_sweep); walk_at "enter")
      | (refine wpAny_call ?_; walk_at "enter")))))
  (k_with "halt" => ((with_reducible show LCg.CompSrc _ _ _ _ _ _ _ _ _ _ _ _ _ _)))
  (k_with "halt" => ((with_reducible show wpAny _ _ (exec (Stmt.While _ _ _ _) _) _ _ _)))
  (k_with "halt" => ((with_reducible show wpAny _ _ (pyIter _) (fun it s₂ => LoopAtV _ _ _ _ _ _ _ _ _ it s₂) _ _)))
  (k_with "go" => (repeat' ((fail_if_success (walk_at "halt")); first | (k_unfold; (try dsimp only)) | walk1 | (dsimp only; walk1) | (leave1; walk_say "STEP leave1"; (try dsimp only)) | fail "no step")))
  (k_with "compareOp In int bytes" => ((k_here; (with_reducible show wpAny _ _ (compareOp CmpOp.In (Value.int _ _) (Value.bytes _ _)) _ _ _); k_dflt (refine By.in_bytes (by kba_ints) (by omega) (by omega) ?_))))
  (k_with "compareOp NotIn int bytes" => ((k_here; (with_reducible show wpAny _ _ (compareOp CmpOp.NotIn (Value.int _ _) (Value.bytes _ _)) _ _ _); k_dflt (refine By.notin_bytes (by kba_ints) (by omega) (by omega) ?_))))
  (k_with "getMethod bytes" => ((k_here; (with_reducible refine By.find_method ?_))))
  (k_with "call builtin:bytes.find" => ((k_here; k_dflt (first | refine By.find2 (by kba_ints) (by kba_ints2) ?_ | refine By.find4 (by kba_ints) (by kba_ints2) (by omega) (by omega) (by omega) ?_))))
  (k_with "getMethod bytes" => ((k_here; (with_reducible refine By.replace_method ?_))))
  (k_with "call builtin:bytes.replace" => ((k_here; k_dflt (refine By.replace3 (by kba_ints) (by kba_ints2) (by kba_ints2) (by decide) (by omega) (by decide) ?_); intro _ _ _ _ _)))
  (k_with "call ref" => ((k_here; (with_reducible show wpAny _ _ (PySem.call (Value.ref 220) [Value.ref _, Value.int _ _]) _ _ _); k_dflt (refine' Call.use (by k_asm) (by k_asm) (by k_asm) (by k_asm) (by k_asm) (by first | assumption | exact rfl) (by ktr_room) (by ktr_units) (draw_upd (U := (by k_updF)) (hc := (by k_ne)) (hm := (by k_mem)) (hi := (by assumption)) (hlen := (by assumption)) (hg0 := (by omega)) (hg := (by omega)) (hst0 := (by omega)) (hst := (by omega)) (hpl0 := (by omega)) (hpl := (by omega)) (hl := (by omega)) (hl' := (by omega))) ?_; intro _ _ _ _ _ _ _ _ _ _ _ _ hP'; obtain ⟨_, _, _, _, _, _⟩ := hP'; (try dsimp only); (try k_sweep)))))
  (k_with "halt" => ((with_reducible show SrcI _ _ _ _ _ _ _ _ _ _ _ _ _ _)))
  (k_with "halt" => ((with_reducible show LCg.CompEnd _ _ _ _ _ _ _ _ _ _ _ _ _ _)))
  trivial
theorem w_up_1 : True := by
  (k_with "eval ListComp" => ((k_here; k_dflt (refine ListComp_I (zF₀ := by k_asm) (by with_unfolding_all rfl) (by decide) (by rfl) (by decide) (by rfl) ?_))))
  trivial
/-- the capital letter of a small one of ASCII -/
def upK (k : Int) : Int := if 97 ≤ k ∧ k ≤ 122 then k - 32 else k
theorem lt_a {c : Nat} : (({ cps := #[c] } : Str).cps.toList < (Str.ofString "a").cps.toList) ↔ c < 97 := by
  show [c] < [97] ↔ c < 97
  rw [List.cons_lt_cons_iff]
  simp
theorem lt_z {c : Nat} : ((Str.ofString "z").cps.toList < ({ cps := #[c] } : Str).cps.toList) ↔ 122 < c := by
  show [122] < [c] ↔ 122 < c
  rw [List.cons_lt_cons_iff]
  simp
theorem up_in {k : Int} (h : 97 ≤ k) (h2 : k ≤ 122) : upK k = k - 32 := if_pos ⟨h, h2⟩
theorem up_lo {k : Int} (h : k < 97) : upK k = k := if_neg fun x => by omega
theorem up_hi {k : Int} (h : 122 < k) : upK k = k := if_neg fun x => by omega
section
variable {w : World} {mean : ExcName → Option Value} {mg mb : Str → Option Value} {news : List (Addr × Obj)} {tb : Tok} {ks : List Int}
theorem uppertext_h (hk : ∀ k ∈ ks, 0 ≤ k ∧ k < 256) (hl : ks.length ≤ 28) :
    Call w mean mg mb 169 [.str (strK ks) tb] news 8 80 (fun R => ∀ tr, R (.str (strK (ks.map upK)) tr) news True) := by
  intro dp u gd cn cs a ccd cl outer A₀ base h₀ L m s Q E B F X N T hkk hd hu hret
  refine wpAny_call ?_
  k_dflt (walk_at "enter")
  walk_at "go"
  have hbl := strK_len ks
  refine SrcI.intro (IterOf.str (by rfl)) (by k_asm) (by k_asm) (by show (strK ks).length ≤ _; rw [hbl, PySem.sizeLine_eq]; omega) ?_
  intro gg
  refine comp_inv (fun i ys nw => StrsAre ys ((ks.take i).map fun k => chrK (upK k)) ∧ nw = news) ?_ ?_ ?_
  · exact ⟨.nil, rfl⟩
  · rintro i v ys nw I oI C oC D m₂ h tk E' hi' ⟨c, uu, hc, rfl⟩ hyl ⟨hys, rfl⟩ hC hx F N off ne
    k_fold
    obtain ⟨k, hki, hkc⟩ := strK_get hc
    have hk9 := hk k (List.mem_of_getElem? hki)
    have hck : (c : Int) = k := by omega
    walk_at "go"
    · rename _ < _ => q1
      rw [lt_a] at q1
      show LCg.CompEnd _ _ _ _ _ _ _ _ _ _ _ _ _ _
      rename Fr _ _ _ _ => F5
      rename News _ _ _ _ => N5
      refine LCg.CompEnd.intro F5 N5 _ (fun _ h => h) off trivial ⟨?_, rfl⟩
      rw [take_snoc (fun k => chrK (upK k)) hki, ← hck, up_lo (by omega)]
      exact hys.append' (.cons _ _ .nil)
    · rename _ < _ => q1
      rw [lt_z] at q1
      show LCg.CompEnd _ _ _ _ _ _ _ _ _ _ _ _ _ _
      rename Fr _ _ _ _ => F5
      rename News _ _ _ _ => N5
      refine LCg.CompEnd.intro F5 N5 _ (fun _ h => h) off trivial ⟨?_, rfl⟩
      rw [take_snoc (fun k => chrK (upK k)) hki, ← hck, up_hi (by omega)]
      exact hys.append' (.cons _ _ .nil)
    · rename ¬ _ < _ => q2
      rw [lt_z] at q2
      revert q2
      rename ¬ _ < _ => q1
      intro q2
      rw [lt_a] at q1
      k_dflt (refine chr_of_range (by omega) (by omega) ?_)
      walk_at "go"
      show LCg.CompEnd _ _ _ _ _ _ _ _ _ _ _ _ _ _
      rename Fr _ _ _ _ => F5
      rename News _ _ _ _ => N5
      refine LCg.CompEnd.intro F5 N5 _ (fun _ h => h) off trivial ⟨?_, rfl⟩
      rw [take_snoc (fun k => chrK (upK k)) hki, ← hck, up_in (by omega) (by omega)]
      exact hys.append' (.cons _ _ .nil)
  · rintro ys nw hyl ⟨hys, rfl⟩
    walk_at "go"
    rename_i D h tk F1 N1 o1'
    have hyl2 : ys.length = ks.length := by rw [hyl]; exact hbl
    rw [List.take_of_length_le (by rw [← hbl]; exact Nat.le_refl _)] at hys
    have hys' : StrsAre ys ((ks.map upK).map chrK) := by rw [List.map_map]; exact hys
    k_dflt (refine join_listW (items := ys.toArray) (ys := (ks.map upK).map chrK) (News.isList N1 (List.mem_cons_self)) (by simpa using hys') (by decide) (by simp only [chr_sum, List.length_map]; omega) ?_)
    intro t9 k9
    rw [join_chr]
    walk_at "go"
    exact hret _ _ _ (by k_asm) (cb_drop (by k_asm) (by kcf_all)) trivial
end
end
section
theorem w_same_0 : True := by
  k_with_none
  (k_with "enter" => (first
      | cell_enter
      | walk_at "enter S"
      | (refine' code_defC (by k_asm) (by k_asm) (by k_asm) (by k_asm) (by k_asm) (by exact rfl) (by exact rfl) (by first | assumption | exact rfl) (by k_is) (by k_is) (by ktr_room) (by first | exact BindsTo.of_eq rfl | exact binds_K (by k_in) rfl (by k_is) rfl rfl rfl) (by exact rfl) (by decide +kernel) ?_ (by exact rfl) (by exact rfl) (by exact rfl); k_whole; intro _ _ _ _ _ _ _ N' Y' B' _ _ l1; (try k_lt l1); k_cells Y'; (try simp only [List.cons_append, List.nil_append] at N'); (try dsimp only); (try k_lift B'); (try k_fold))))
  (k_with "call ref" => ((k_here; k_dflt (first
      | (refine' call_cls0 (by k_asm) (by k_asm) (by k_asm) (by k_is) (by k_is) ?_; k_whole; intro _ _ _ _ _ l1 l2; (try k_lt l1); (try k_lt2 l2); (try k_sweep))
      | (refine' call_cls (by k_asm) (by k_asm) (by k_asm) (by k_is) (by k_is) (by k_is) ?_; k_whole; intro _ _ _ _ _ l1 l2; (try k_lt l1); (try k_lt2 l2); (try k_sweep); walk_at "enter")
      | (refine wpAny_call ?_; walk_at "enter")))))
  (k_with "halt" => ((with_reducible show LCg.CompSrc _ _ _ _ _ _ _ _ _ _ _ _ _ _)))
  (k_with "halt" => ((with_reducible show wpAny _ _ (exec (Stmt.While _ _ _ _) _) _ _ _)))
  (k_with "halt" => ((with_reducible show wpAny _ _ (pyIter _) (fun it s₂ => LoopAtV _ _ _ _ _ _ _ _ _ it s₂) _ _)))
  (k_with "go" => (repeat' ((fail_if_success (walk_at "halt")); first | (k_unfold; (try dsimp only)) | walk1 | (dsimp only; walk1) | (leave1; walk_say "STEP leave1"; (try dsimp only)) | fail "no step")))
  (k_with "compareOp In int bytes" => ((k_here; (with_reducible show wpAny _ _ (compareOp CmpOp.In (Value.int _ _) (Value.bytes _ _)) _ _ _); k_dflt (refine By.in_bytes (by kba_ints) (by omega) (by omega) ?_))))
  (k_with "compareOp NotIn int bytes" => ((k_here; (with_reducible show wpAny _ _ (compareOp CmpOp.NotIn (Value.int _ _) (Value.bytes _ _)) _ _ _); k_dflt (refine By.notin_bytes (by kba_ints) (by omega) (by omega) ?_))))
  (k_with "getMethod bytes" => ((k_here; (with_reducible refine By.find_method ?_))))
  (k_with "call builtin:bytes.find" => ((k_here; k_dflt (first | refine By.find2 (by kba_ints) (by kba_ints2) ?_ | refine By.find4 (by kba_ints) (by kba_ints2) (by omega) (by omega) (by omega) ?_))))
  (k_with "getMethod bytes" => ((k_here; (with_reducible refine By.replace_method ?_))))
  (k_with "call builtin:bytes.replace" => ((k_here; k_dflt (refine By.replace3 (by kba_ints) (by kba_ints2) (by kba_ints2) (by decide) (by omega) (by decide) ?_); intro _ _ _ _ _)))
  (k_with "call ref" => ((k_here; (with_reducible show wpAny _ _ (PySem.call (Value.ref 220) [Value.ref _, Value.int _ _]) _ _ _); k_dflt (refine' Call.use (by k_asm) (by k_asm) (by k_asm) (by k_asm) (by k_asm) (by first | assumption | exact rfl) (by ktr_room) (by ktr_units) (draw_upd (U := (by k_updF)) (hc := (by k_ne)) (hm := (by k_mem)) (hi := (by assumption)) (hlen := (by assumption)) (hg0 := (by omega)) (hg := (by omega)) (hst0 := (by omega)) (hst := (by omega)) (hpl0 := (by omega)) (hpl := (by omega)) (hl := (by omega)) (hl' := (by omega))) ?_; intro _ _ _ _ _ _ _ _ _ _ _ _ hP'; obtain ⟨_, _, _, _, _, _⟩ := hP'; (try dsimp only); (try k_sweep)))))
  (k_with "halt" => ((with_reducible show SrcI _ _ _ _ _ _ _ _ _ _ _ _ _ _)))
  (k_with "halt" => ((with_reducible show LCg.CompEnd _ _ _ _ _ _ _ _ _ _ _ _ _ _)))
  trivial
theorem len_K {prog : Program} {w : World} {A : Around} {E : Value → Shared → Prop} {s : Shared} {ks : List Int} {t : Tok} {Q : Value → Shared → Prop} (hl : ks.length ≤ 1000) (h : ∀ t' k', Q (.int (ks.length : Int) t') { s with toks := k' }) :
    wpAny (model prog w) A (call (.builtin "len") [.str (strK ks) t]) Q E s := by
  refine P.len_str ?_ ?_
  · rw [strK_len]; omega
  · rw [strK_len]; exact h _ _
theorem w_same_1 : True := by
  (k_with "call builtin:len" => ((k_here; (with_reducible show wpAny _ _ (call (Value.builtin "len") [Value.str (strK _) _]) _ _ _); k_dflt (refine len_K (by first | omega | (simp only [List.length_map]; omega)) ?_); intro _ _; (try dsimp only))))
  (k_with "call ref" => ((k_here; (with_reducible show wpAny _ _ (PySem.call (Value.ref 159) _) _ _ _); k_dflt (refine' lower_h (hb := (by assumption)) (hl := (by first | assumption | omega)) _ _ _ _ _ _ _ _ _ _ _ _ _ _ _ _ _ (by k_asm) (by k_asm) (by k_asm) (by k_asm) (by k_asm) (by first | assumption | exact rfl) (by ktr_room) (by ktr_units) ?_; intro _ _ _ _ _ _ _; (try dsimp only); (try k_sweep)))))
  (k_with "call ref" => ((k_here; (with_reducible show wpAny _ _ (PySem.call (Value.ref 164) _) _ _ _); k_dflt (refine' lowtext_h (hk := (by assumption)) (hl := (by first | assumption | omega)) _ _ _ _ _ _ _ _ _ _ _ _ _ _ _ _ _ (by k_asm) (by k_asm) (by k_asm) (by k_asm) (by k_asm) (by first | assumption | exact rfl) (by ktr_room) (by ktr_units) ?_; intro _ _ _ _ _ _; (try dsimp only); (try k_sweep)))))
  (k_with "call ref" => ((k_here; (with_reducible show wpAny _ _ (PySem.call (Value.ref 169) _) _ _ _); k_dflt (refine' uppertext_h (hk := (by assumption)) (hl := (by first | assumption | omega)) _ _ _ _ _ _ _ _ _ _ _ _ _ _ _ _ _ (by k_asm) (by k_asm) (by k_asm) (by k_asm) (by k_asm) (by first | assumption | exact rfl) (by ktr_room) (by ktr_units) ?_; intro _ _ _ _ _ _; (try dsimp only); (try k_sweep)))))
  trivial
section
variable {w : World} {mean : ExcName → Option Value} {mg mb : Str → Option Value} {news : List (Addr × Obj)} {b c : Array UInt8} {tb tc : Tok} {ks ls : List Int}
theorem sameb_h (hb : KBw.bInts b = ks) (hl : ks.length ≤ 28) (hc : KBw.bInts c = ls) (hl2 : ls.length ≤ 28) :
    Call w mean mg mb 176 [.bytes b tb, .bytes c tc] news 16 160 (fun R => R (.bool (decide (ks.map lowK = ls.map lowK))) news True) := by
  intro dp u gd cn cs a ccd cl outer A₀ base h₀ L m s Q E B F X N T hkk hd hu hret
  refine wpAny_call ?_
  k_dflt (walk_at "enter")
  walk_at "go"
  · rename (ks.length : Int) ≠ _ => q
    have e : decide (ks.map lowK = ls.map lowK) = false := decide_eq_false fun h => q (by
      have := congrArg List.length h
      rw [List.length_map, List.length_map] at this
      omega)
    rw [e] at hret
    exact hret _ _ (by k_asm) (by k_asm) trivial
  · rename KBw.bInts _ = List.map lowK ls => q2
    rename KBw.bInts _ = List.map lowK ks => q1
    rw [bytes_eqb, q1, q2]
    exact hret _ _ (by k_asm) (by k_asm) trivial
theorem samet_h (hk : ∀ k ∈ ks, 0 ≤ k ∧ k < 256) (hl : ks.length ≤ 28) (hk2 : ∀ k ∈ ls, 0 ≤ k ∧ k < 256) (hl2 : ls.length = ks.length) (he : ks.map lowK = ls.map lowK) :
    Call w mean mg mb 176 [.str (strK ks) tb, .str (strK ls) tc] news 16 160 (fun R => R (.bool true) news True) := by
  intro dp u gd cn cs a ccd cl outer A₀ base h₀ L m s Q E B F X N T hkk hd hu hret
  refine wpAny_call ?_
  k_dflt (walk_at "enter")
  walk_at "go"
  · exfalso
    omega
  · rw [he, beq_self_eq_true]
    exact hret _ _ (by k_asm) (by k_asm) trivial
end
end
section
theorem w_heard_0 : True := by
  k_with_none
  (k_with "enter" => (first
      | cell_enter
      | walk_at "enter S"
      | (refine' code_defC (by k_asm) (by k_asm) (by k_asm) (by k_asm) (by k_asm) (by exact rfl) (by exact rfl) (by first | assumption | exact rfl) (by k_is) (by k_is) (by ktr_room) (by first | exact BindsTo.of_eq rfl | exact binds_K (by k_in) rfl (by k_is) rfl rfl rfl) (by exact rfl) (by decide +kernel) ?_ (by exact rfl) (by exact rfl) (by exact rfl); k_whole; intro _ _ _ _ _ _ _ N' Y' B' _ _ l1; (try k_lt l1); k_cells Y'; (try simp only [List.cons_append, List.nil_append] at N'); (try dsimp only); (try k_lift B'); (try k_fold))))
  (k_with "call ref" => ((k_here; k_dflt (first
      | (refine' call_cls0 (by k_asm) (by k_asm) (by k_asm) (by k_is) (by k_is) ?_; k_whole; intro _ _ _ _ _ l1 l2; (try k_lt l1); (try k_lt2 l2); (try k_sweep))
      | (refine' call_cls (by k_asm) (by k_asm) (by k_asm) (by k_is) (by k_is) (by k_is) ?_; k_whole; intro _ _ _ _ _ l1 l2; (try k_lt l1); (try k_lt2 l2); (try k_sweep); walk_at "enter")
      | (refine wpAny_call ?_; walk_at "enter")))))
  (k_with "halt" => ((with_reducible show LCg.CompSrc _ _ _ _ _ _ _ _ _ _ _ _ _ _)))
  (k_with "halt" => ((with_reducible show wpAny _ _ (exec (Stmt.While _ _ _ _) _) _ _ _)))
  (k_with "halt" => ((with_reducible show wpAny _ _ (pyIter _) (fun it s₂ => LoopAtV _ _ _ _ _ _ _ _ _ it s₂) _ _)))
  (k_with "go" => (repeat' ((fail_if_success (walk_at "halt")); first | (k_unfold; (try dsimp only)) | walk1 | (dsimp only; walk1) | (leave1; walk_say "STEP leave1"; (try dsimp only)) | fail "no step")))
  (k_with "compareOp In int bytes" => ((k_here; (with_reducible show wpAny _ _ (compareOp CmpOp.In (Value.int _ _) (Value.bytes _ _)) _ _ _); k_dflt (refine By.in_bytes (by kba_ints) (by omega) (by omega) ?_))))
  (k_with "compareOp NotIn int bytes" => ((k_here; (with_reducible show wpAny _ _ (compareOp CmpOp.NotIn (Value.int _ _) (Value.bytes _ _)) _ _ _); k_dflt (refine By.notin_bytes (by kba_ints) (by omega) (by omega) ?_))))
  (k_with "getMethod bytes" => ((k_here; (with_reducible refine By.find_method ?_))))
  (k_with "call builtin:bytes.find" => ((k_here; k_dflt (first | refine By.find2 (by kba_ints) (by kba_ints2) ?_ | refine By.find4 (by kba_ints) (by kba_ints2) (by omega) (by omega) (by omega) ?_))))
  (k_with "getMethod bytes" => ((k_here; (with_reducible refine By.replace_method ?_))))
  (k_with "call builtin:bytes.replace" => ((k_here; k_dflt (refine By.replace3 (by kba_ints) (by kba_ints2) (by kba_ints2) (by decide) (by omega) (by decide) ?_); intro _ _ _ _ _)))
  (k_with "halt" => ((with_reducible show wpS _ _ _ _ _ _)))
  (k_with "halt" => ((with_reducible show wpAny _ _ (pyIter _) (fun it s₂ => codeS _ _ _ _ s₂) _ _)))
  (k_with "halt" => ((with_reducible show MethS _ _ _ _ _ _ _ _ _ _ _)))
  (k_with "halt" => ((with_reducible show TurnX _ _ _ _ _ _ _ _ _)))
  (k_with "call ref" => ((k_here; (with_reducible show wpAny _ _ (PySem.call (Value.ref 220) [Value.ref _, Value.int _ _]) _ _ _); k_dflt (refine' Call.use (by k_asm) (by k_asm) (by k_asm) (by k_asm) (by k_asm) (by first | assumption | exact rfl) (by ktr_room) (by ktr_units) (draw_upd (U := (by k_updF)) (hc := (by k_ne)) (hm := (by k_mem)) (hi := (by assumption)) (hlen := (by assumption)) (hg0 := (by omega)) (hg := (by omega)) (hst0 := (by omega)) (hst := (by omega)) (hpl0 := (by omega)) (hpl := (by omega)) (hl := (by omega)) (hl' := (by omega))) ?_; intro _ _ _ _ _ _ _ _ _ _ _ _ hP'; obtain ⟨_, _, _, _, _, _⟩ := hP'; (try dsimp only); (try k_sweep)))))
  (k_with "halt" => ((with_reducible show SrcI _ _ _ _ _ _ _ _ _ _ _ _ _ _)))
  (k_with "halt" => ((with_reducible show LCg.CompEnd _ _ _ _ _ _ _ _ _ _ _ _ _ _)))
  (k_with "exec Raise some none" => ((k_here; k_dflt (refine' raise59 (by rfl) ?_))))
  (k_with "halt" => ((with_reducible show Thrown59 _ _ _ _)))
  trivial
theorem w_heard_1 : True := by
  (k_with "eval ListComp" => ((k_here; k_dflt (refine ListComp_I (zF₀ := by k_asm) (by with_unfolding_all rfl) (by decide) (by rfl) (by decide) (by rfl) ?_))))
  (k_with "call ref" => ((k_here; (with_reducible show wpAny _ _ (PySem.call (Value.ref 59) _) _ _ _); k_dflt (refine' fault_h _ _ _ _ _ _ _ _ _ _ _ _ _ _ _ _ _ (by k_asm) (by k_asm) (by k_asm) (by k_asm) (by k_asm) (by first | assumption | exact rfl) (by ktr_room) (by ktr_units) ?_; intro _ _ _ _ _ _ _ _ _ _; (try dsimp only)))))
  trivial
theorem fr_norm1 {h₀ h : Heap} {L : Addr} {x : Str} {a : Option Value} {m m0 : Str → Option Value} (hm : ∀ q, q ≠ x → m q = m0 q) (F : Fr h₀ L h (fun q => if q = x then a else m q)) :
    Fr h₀ L h (fun q => if q = x then a else m0 q) := by
  have e : (fun q => if q = x then a else m q) = fun q => if q = x then a else m0 q := by
    funext q
    by_cases hx : q = x
    · rw [if_pos hx, if_pos hx]
    · rw [if_neg hx, if_neg hx, hm q hx]
  rw [← e]; exact F
theorem fr_norm1' {h₀ h : Heap} {L : Addr} {x : Str} {m m0 : Str → Option Value} (hm : ∀ q, q ≠ x → m q = m0 q) (F : Fr h₀ L h m) :
    Fr h₀ L h (fun q => if q = x then m x else m0 q) := by
  have e : m = fun q => if q = x then m x else m0 q := by
    funext q
    by_cases hx : q = x
    · rw [if_pos hx, hx]
    · rw [if_neg hx, hm q hx]
  rw [← e]; exact F
theorem w_heard_2 : True := by
  (k_with "halt" => ((with_reducible show LeaveS0 _ _ _ _ _ _ _ _)))
  trivial
abbrev HeardJ (m0 : Str → Option Value) (news : List (Addr × Obj)) (ks : List Int) (i : Nat) (m : Str → Option Value) (nw : List (Addr × Obj)) : Prop :=
  nw = news ∧ (∀ q, q ≠ Str.ofString "at" → m q = m0 q) ∧ ∀ j < i, ks.getD j 0 ≤ 127
theorem first_hi {ks : List Int} {i : Nat} (hi : i < ks.length) (h : 127 < ks.getD i 0) (hlow : ∀ j < i, ks.getD j 0 ≤ 127) : ks.findIdx? (fun k => decide (127 < k)) = some i := by
  rw [List.findIdx?_eq_some_iff_getElem]
  refine ⟨hi, ?_, fun j hj => ?_⟩
  · rw [List.getD_eq_getElem?_getD, List.getElem?_eq_getElem hi] at h
    exact decide_eq_true h
  · have := hlow j hj
    rw [List.getD_eq_getElem?_getD, List.getElem?_eq_getElem (by omega)] at this
    simp only [Option.getD_some] at this
    simp only [decide_eq_true_eq]
    omega
theorem none_hi {ks : List Int} (hlow : ∀ j < ks.length, ks.getD j 0 ≤ 127) : ks.findIdx? (fun k => decide (127 < k)) = none := by
  rw [List.findIdx?_eq_none_iff]
  intro x hx
  obtain ⟨j, hj, rfl⟩ := List.getElem_of_mem hx
  have := hlow j hj
  rw [List.getD_eq_getElem?_getD, List.getElem?_eq_getElem hj] at this
  simp only [Option.getD_some] at this
  simp only [decide_eq_false_iff_not]
  omega
section
variable {w : World} {mean : ExcName → Option Value} {mg mb : Str → Option Value} {news : List (Addr × Obj)} {b : Array UInt8} {tb : Tok} {ks : List Int}
theorem hearda_h (hb : KBw.bInts b = ks) (hl : ks.length ≤ 14) :
    CallT w mean mg mb 254 [.ref 181, .bytes b tb] news 24 300 (fun R => ∀ tr, R (match ks.findIdx? (fun k => decide (127 < k)) with | some i => .int i tr | none => .str (strK ks) tr) news True) := by
  intro dp u gd cn cs a ccd cl A₀ h₀ L m s Q E B F X N T hkk hd hu hret
  refine wpAny_call ?_
  k_dflt (refine' code_defT ?k1 ?k2 ?k3 ?k4 ?k5 ?kA ?kF ?kK ?k6 ?k7 ?k8 ?k9 ?kB ?_ ?c2 ?c3 ?c4 ?c5; (case kA | kF => exact rfl); (case kK => first | assumption | exact rfl); (case k1 | k2 | k3 | k4 | k5 => k_asm); (case k6 | k7 => k_is); (case k8 => ktr_room); (case k9 => first | exact BindsTo.of_eq rfl | exact binds_K (by k_in) rfl (by k_is) rfl rfl rfl); (case c5 => decide); (case kB => exact locs rfl); (case c2 | c3 | c4 => exact rfl); k_whole; intro _ _ _ _ _ _ B' _ _; (try dsimp only); (try k_lift B'); (try k_fold))
  walk_at "go"
  rename Fr _ _ _ _ => F1
  rename News _ _ _ _ => N1
  have hbl : b.size = ks.length := by rw [← hb, KBw.ints_length]
  refine For_X (HeardJ _ news ks) (IterX.range rfl (by assumption) (small_n (Nat.le_trans hl (by decide))) (size_n _)) F1 N1 ⟨rfl, fun _ _ => rfl, fun _ h => absurd h (Nat.not_lt_zero _)⟩ (fun _ _ _ _ p hp => nomatch hp) ?_ ?_
  · rintro i v m₁ nw I oI h tk hi ⟨uu, rfl⟩ ⟨rfl, hm, hlow⟩ hI F2 N2
    have F3 := fr_norm1 hm F2
    clear F2
    walk_at "go"
    · rename Fr _ _ _ _ => F5
      rename News _ _ _ _ => N5
      rename Frag.In _ _ => X5
      rename _ ∧ _ ∧ _ => l5
      rename Below _ _ _ _ => B5
      refine ⟨_, _, _, rfl, X5.keeps F5.keep, (N5 _ (.tail _ (.head _))).1, ?_⟩
      refine leave59 B5 F5 N5 l5.1 l5.2.1 l5.2.2 ?_ rfl
      intro h' R' D' U'
      refine caught59 R' (by assumption) (by assumption) U' D' X T (by k_is) ?_ rfl rfl rfl (by decide)
      intro h'' g'' oe tk'' T' F' N' K' X' P' c1 c2 c3
      have I9 : W.InstAt h'' _ oe 59 (some (fltD w _ _ _ _ _ _)) := ⟨(N' _ (.head _)).1, c1, c2, by rw [c3]; exact (N' _ (.tail _ (.head _))).1⟩
      walk_at "go"
      refine getattr59 (X'.keeps F'.keep) I9 (by rfl) rfl ?_
      walk_at "go"
      rename 127 < _ => q1
      rw [Int.toNat_natCast] at q1
      rw [first_hi hi q1 hlow] at hret
      show LeaveS0 _ _ _ _ _ _ _ _
      refine leaveS0_ (by k_asm) (by k_asm) T' fun kF kN => ?_
      exact hret _ _ _ kF (cb_drop kN (by kcf_all)) trivial
    · rename Fr _ _ _ _ => F5
      rename News _ _ _ _ => N5
      rename ¬ 127 < _ => q1
      rw [Int.toNat_natCast] at q1
      refine ⟨_, _, _, _, rfl, F5, N5, hI, rfl, ?_, ?_⟩
      · intro q h1
        simp only [if_neg h1]
      · intro j hj
        rcases Nat.lt_or_ge j i with h | h
        · exact hlow j h
        · obtain rfl : j = i := by omega
          omega
  · rintro h tk m₁ nw ⟨rfl, hm, hlow⟩ F2 N2
    dsimp only
    have F3 := fr_norm1' hm F2
    clear F2
    rw [none_hi hlow] at hret
    walk_at "go"
    refine SrcI.intro (IterOf.bytes (by rfl)) (by k_asm) (by k_asm) (by rw [PySem.sizeLine_eq]; omega) ?_
    intro gg
    refine comp_inv (fun i ys nw' => StrsAre ys ((ks.take i).map chrK) ∧ nw' = nw) ?_ ?_ ?_
    · exact ⟨.nil, rfl⟩
    · rintro i v ys nw I oI C oC D m₂ h tk E' hi' ⟨c, uu, hc, rfl⟩ hyl ⟨hys, rfl⟩ hC hx F N off ne
      k_fold
      have hk : ks[i]? = some (c.toNat : Int) := by rw [← hb]; exact KBw.ints_get hc
      have hc9 := c.toNat_lt
      walk_at "go"
      show LCg.CompEnd _ _ _ _ _ _ _ _ _ _ _ _ _ _
      rename Fr _ _ _ _ => F5
      rename News _ _ _ _ => N5
      refine LCg.CompEnd.intro F5 N5 _ (fun _ h => h) off trivial ⟨?_, rfl⟩
      rw [take_snoc chrK hk]
      exact hys.append' (.cons _ _ .nil)
    · rintro ys nw' hyl ⟨hys, rfl⟩
      walk_at "go"
      rename_i D h tk F1 N1 o1'
      rw [List.take_of_length_le (by omega)] at hys
      have hyl2 := hys.length
      k_dflt (refine join_listW (items := ys.toArray) (ys := ks.map chrK) (News.isList N1 (List.mem_cons_self)) (by simpa using hys) (by decide) (by simp only [chr_sum]; omega) ?_)
      intro t9 k9
      rw [join_chr]
      walk_at "go"
      show LeaveS0 _ _ _ _ _ _ _ _
      refine leaveS0_ (by k_asm) (by k_asm) KtsTurn.refl fun kF kN => ?_
      exact hret _ _ _ kF (cb_drop kN (by kcf_all)) trivial
end
end
section
theorem w_heardt_0 : True := by
  k_with_none
  (k_with "enter" => (first
      | cell_enter
      | walk_at "enter S"
      | (refine' code_defC (by k_asm) (by k_asm) (by k_asm) (by k_asm) (by k_asm) (by exact rfl) (by exact rfl) (by first | assumption | exact rfl) (by k_is) (by k_is) (by ktr_room) (by first | exact BindsTo.of_eq rfl | exact binds_K (by k_in) rfl (by k_is) rfl rfl rfl) (by exact rfl) (by decide +kernel) ?_ (by exact rfl) (by exact rfl) (by exact rfl); k_whole; intro _ _ _ _ _ _ _ N' Y' B' _ _ l1; (try k_lt l1); k_cells Y'; (try simp only [List.cons_append, List.nil_append] at N'); (try dsimp only); (try k_lift B'); (try k_fold))))
  (k_with "call ref" => ((k_here; k_dflt (first
      | (refine' call_cls0 (by k_asm) (by k_asm) (by k_asm) (by k_is) (by k_is) ?_; k_whole; intro _ _ _ _ _ l1 l2; (try k_lt l1); (try k_lt2 l2); (try k_sweep))
      | (refine' call_cls (by k_asm) (by k_asm) (by k_asm) (by k_is) (by k_is) (by k_is) ?_; k_whole; intro _ _ _ _ _ l1 l2; (try k_lt l1); (try k_lt2 l2); (try k_sweep); walk_at "enter")
      | (refine wpAny_call ?_; walk_at "enter")))))
  (k_with "halt" => ((with_reducible show LCg.CompSrc _ _ _ _ _ _ _ _ _ _ _ _ _ _)))
  (k_with "halt" => ((with_reducible show wpAny _ _ (exec (Stmt.While _ _ _ _) _) _ _ _)))
  (k_with "halt" => ((with_reducible show wpAny _ _ (pyIter _) (fun it s₂ => LoopAtV _ _ _ _ _ _ _ _ _ it s₂) _ _)))
  (k_with "go" => (repeat' ((fail_if_success (walk_at "halt")); first | (k_unfold; (try dsimp only)) | walk1 | (dsimp only; walk1) | (leave1; walk_say "STEP leave1"; (try dsimp only)) | fail "no step")))
  (k_with "compareOp In int bytes" => ((k_here; (with_reducible show wpAny _ _ (compareOp CmpOp.In (Value.int _ _) (Value.bytes _ _)) _ _ _); k_dflt (refine By.in_bytes (by kba_ints) (by omega) (by omega) ?_))))
  (k_with "compareOp NotIn int bytes" => ((k_here; (with_reducible show wpAny _ _ (compareOp CmpOp.NotIn (Value.int _ _) (Value.bytes _ _)) _ _ _); k_dflt (refine By.notin_bytes (by kba_ints) (by omega) (by omega) ?_))))
  (k_with "getMethod bytes" => ((k_here; (with_reducible refine By.find_method ?_))))
  (k_with "call builtin:bytes.find" => ((k_here; k_dflt (first | refine By.find2 (by kba_ints) (by kba_ints2) ?_ | refine By.find4 (by kba_ints) (by kba_ints2) (by omega) (by omega) (by omega) ?_))))
  (k_with "getMethod bytes" => ((k_here; (with_reducible refine By.replace_method ?_))))
  (k_with "call builtin:bytes.replace" => ((k_here; k_dflt (refine By.replace3 (by kba_ints) (by kba_ints2) (by kba_ints2) (by decide) (by omega) (by decide) ?_); intro _ _ _ _ _)))
  (k_with "halt" => ((with_reducible show wpS _ _ _ _ _ _)))
  (k_with "halt" => ((with_reducible show wpAny _ _ (pyIter _) (fun it s₂ => codeS _ _ _ _ s₂) _ _)))
  (k_with "halt" => ((with_reducible show MethS _ _ _ _ _ _ _ _ _ _ _)))
  (k_with "halt" => ((with_reducible show TurnX _ _ _ _ _ _ _ _ _)))
  (k_with "call ref" => ((k_here; (with_reducible show wpAny _ _ (PySem.call (Value.ref 220) [Value.ref _, Value.int _ _]) _ _ _); k_dflt (refine' Call.use (by k_asm) (by k_asm) (by k_asm) (by k_asm) (by k_asm) (by first | assumption | exact rfl) (by ktr_room) (by ktr_units) (draw_upd (U := (by k_updF)) (hc := (by k_ne)) (hm := (by k_mem)) (hi := (by assumption)) (hlen := (by assumption)) (hg0 := (by omega)) (hg := (by omega)) (hst0 := (by omega)) (hst := (by omega)) (hpl0 := (by omega)) (hpl := (by omega)) (hl := (by omega)) (hl' := (by omega))) ?_; intro _ _ _ _ _ _ _ _ _ _ _ _ hP'; obtain ⟨_, _, _, _, _, _⟩ := hP'; (try dsimp only); (try k_sweep)))))
  (k_with "halt" => ((with_reducible show SrcI _ _ _ _ _ _ _ _ _ _ _ _ _ _)))
  (k_with "halt" => ((with_reducible show LCg.CompEnd _ _ _ _ _ _ _ _ _ _ _ _ _ _)))
  (k_with "exec Raise some none" => ((k_here; k_dflt (refine' raise59 (by rfl) ?_))))
  (k_with "halt" => ((with_reducible show Thrown59 _ _ _ _)))
  (k_with "call builtin:len" => ((k_here; (with_reducible show wpAny _ _ (call (Value.builtin "len") [Value.str (strK _) _]) _ _ _); k_dflt (refine len_K (by first | omega | (simp only [List.length_map]; omega)) ?_); intro _ _; (try dsimp only))))
  (k_with "call ref" => ((k_here; (with_reducible show wpAny _ _ (PySem.call (Value.ref 159) _) _ _ _); k_dflt (refine' lower_h (hb := (by assumption)) (hl := (by first | assumption | omega)) _ _ _ _ _ _ _ _ _ _ _ _ _ _ _ _ _ (by k_asm) (by k_asm) (by k_asm) (by k_asm) (by k_asm) (by first | assumption | exact rfl) (by ktr_room) (by ktr_units) ?_; intro _ _ _ _ _ _ _; (try dsimp only); (try k_sweep)))))
  (k_with "call ref" => ((k_here; (with_reducible show wpAny _ _ (PySem.call (Value.ref 164) _) _ _ _); k_dflt (refine' lowtext_h (hk := (by assumption)) (hl := (by first | assumption | omega)) _ _ _ _ _ _ _ _ _ _ _ _ _ _ _ _ _ (by k_asm) (by k_asm) (by k_asm) (by k_asm) (by k_asm) (by first | assumption | exact rfl) (by ktr_room) (by ktr_units) ?_; intro _ _ _ _ _ _; (try dsimp only); (try k_sweep)))))
  (k_with "call ref" => ((k_here; (with_reducible show wpAny _ _ (PySem.call (Value.ref 169) _) _ _ _); k_dflt (refine' uppertext_h (hk := (by assumption)) (hl := (by first | assumption | omega)) _ _ _ _ _ _ _ _ _ _ _ _ _ _ _ _ _ (by k_asm) (by k_asm) (by k_asm) (by k_asm) (by k_asm) (by first | assumption | exact rfl) (by ktr_room) (by ktr_units) ?_; intro _ _ _ _ _ _; (try dsimp only); (try k_sweep)))))
  (k_with "halt" => ((with_reducible show LeaveS0 _ _ _ _ _ _ _ _)))
  trivial
theorem w_heardt_1 : True := by
  (k_with "eval ListComp" => ((k_here; k_dflt (refine ListComp_I (zF₀ := by k_asm) (by with_unfolding_all rfl) (by decide) (by rfl) (by decide) (by rfl) ?_))))
  (k_with "call ref" => ((k_here; (with_reducible show wpAny _ _ (PySem.call (Value.ref 59) _) _ _ _); k_dflt (refine' fault_h _ _ _ _ _ _ _ _ _ _ _ _ _ _ _ _ _ (by k_asm) (by k_asm) (by k_asm) (by k_asm) (by k_asm) (by first | assumption | exact rfl) (by ktr_room) (by ktr_units) ?_; intro _ _ _ _ _ _ _ _ _ _; (try dsimp only)))))
  trivial
theorem item_K {ks : List Int} (hr : ∀ k ∈ ks, 0 ≤ k ∧ k < 256) {i : Nat} (hi : i < ks.length) : (((Txt.item (strK ks) (i : Int)).cps.getD 0 0 : Nat) : Int) = ks.getD i 0 := by
  have h := hr ks[i] (List.getElem_mem hi)
  rw [List.getD_eq_getElem?_getD, List.getElem?_eq_getElem hi, item_meets ⟨by omega, by rw [strK_len]; omega⟩]
  have e : (strK ks).cps.getD ((i : Int).toNat) 0 = (ks[i]).toNat := by
    rw [Int.toNat_natCast]
    show ((ks.map Int.toNat).toArray).getD i 0 = _
    simp [hi]
  rw [e]
  show ((ks[i].toNat : Nat) : Int) = ks[i]
  omega
section
variable {w : World} {mean : ExcName → Option Value} {mg mb : Str → Option Value} {news : List (Addr × Obj)} {tb : Tok} {ks : List Int}
theorem heardt_h (hr : ∀ k ∈ ks, 0 ≤ k ∧ k < 256) (hl : ks.length ≤ 14) :
    CallT w mean mg mb 254 [.ref 186, .str (strK ks) tb] news 24 300 (fun R => ∀ tr, match ks.findIdx? (fun k => decide (127 < k)) with | some i => R (.int i tr) news True | none => ∀ r, R (.bytes r tr) news (KBw.bInts r = ks)) := by
  intro dp u gd cn cs a ccd cl A₀ h₀ L m s Q E B F X N T hkk hd hu hret
  refine wpAny_call ?_
  k_dflt (refine' code_defT ?k1 ?k2 ?k3 ?k4 ?k5 ?kA ?kF ?kK ?k6 ?k7 ?k8 ?k9 ?kB ?_ ?c2 ?c3 ?c4 ?c5; (case kA | kF => exact rfl); (case kK => first | assumption | exact rfl); (case k1 | k2 | k3 | k4 | k5 => k_asm); (case k6 | k7 => k_is); (case k8 => ktr_room); (case k9 => first | exact BindsTo.of_eq rfl | exact binds_K (by k_in) rfl (by k_is) rfl rfl rfl); (case c5 => decide); (case kB => exact locs rfl); (case c2 | c3 | c4 => exact rfl); k_whole; intro _ _ _ _ _ _ B' _ _; (try dsimp only); (try k_lift B'); (try k_fold))
  walk_at "go"
  rename Fr _ _ _ _ => F1
  rename News _ _ _ _ => N1
  have hbl := strK_len ks
  refine For_X (HeardJ _ news ks) (IterX.range rfl (by assumption) (small_n (Nat.le_trans hl (by decide))) (size_n _)) F1 N1 ⟨rfl, fun _ _ => rfl, fun _ h => absurd h (Nat.not_lt_zero _)⟩ (fun _ _ _ _ p hp => nomatch hp) ?_ ?_
  · rintro i v m₁ nw I oI h tk hi ⟨uu, rfl⟩ ⟨rfl, hm, hlow⟩ hI F2 N2
    have F3 := fr_norm1 hm F2
    clear F2
    walk_at "go"
    · rename Fr _ _ _ _ => F5
      rename News _ _ _ _ => N5
      rename Frag.In _ _ => X5
      rename _ ∧ _ ∧ _ => l5
      rename Below _ _ _ _ => B5
      refine ⟨_, _, _, rfl, X5.keeps F5.keep, (N5 _ (.tail _ (.head _))).1, ?_⟩
      refine leave59 B5 F5 N5 l5.1 l5.2.1 l5.2.2 ?_ rfl
      intro h' R' D' U'
      refine caught59 R' (by assumption) (by assumption) U' D' X T (by k_is) ?_ rfl rfl rfl (by decide)
      intro h'' g'' oe tk'' T' F' N' K' X' P' c1 c2 c3
      have I9 : W.InstAt h'' _ oe 59 (some (fltD w _ _ _ _ _ _)) := ⟨(N' _ (.head _)).1, c1, c2, by rw [c3]; exact (N' _ (.tail _ (.head _))).1⟩
      walk_at "go"
      refine getattr59 (X'.keeps F'.keep) I9 (by rfl) rfl ?_
      walk_at "go"
      rename 127 < _ => q1
      rw [item_K hr hi] at q1
      rw [first_hi hi q1 hlow] at hret
      show LeaveS0 _ _ _ _ _ _ _ _
      refine leaveS0_ (by k_asm) (by k_asm) T' fun kF kN => ?_
      exact hret _ _ _ kF (cb_drop kN (by kcf_all)) trivial
    · rename Fr _ _ _ _ => F5
      rename News _ _ _ _ => N5
      rename ¬ 127 < _ => q1
      rw [item_K hr hi] at q1
      refine ⟨_, _, _, _, rfl, F5, N5, hI, rfl, ?_, ?_⟩
      · intro q h1
        simp only [if_neg h1]
      · intro j hj
        rcases Nat.lt_or_ge j i with h | h
        · exact hlow j h
        · obtain rfl : j = i := by omega
          omega
  · rintro h tk m₁ nw ⟨rfl, hm, hlow⟩ F2 N2
    dsimp only
    have F3 := fr_norm1' hm F2
    clear F2
    rw [none_hi hlow] at hret
    walk_at "go"
    refine SrcI.intro (IterOf.str (by rfl)) (by k_asm) (by k_asm) (by show (strK ks).length ≤ _; rw [hbl, PySem.sizeLine_eq]; omega) ?_
    intro gg
    refine comp_inv (fun i ys nw' => IntsAre ys (ks.take i) ∧ nw' = nw) ?_ ?_ ?_
    · exact ⟨.nil, rfl⟩
    · rintro i v ys nw I oI C oC D m₂ h tk E' hi' ⟨c, uu, hc, rfl⟩ hyl ⟨hys, rfl⟩ hC hx F N off ne
      k_fold
      obtain ⟨k, hki, hkc⟩ := strK_get hc
      have hk9 := hr k (List.mem_of_getElem? hki)
      have hck : (c : Int) = k := by omega
      walk_at "go"
      show LCg.CompEnd _ _ _ _ _ _ _ _ _ _ _ _ _ _
      rename Fr _ _ _ _ => F5
      rename News _ _ _ _ => N5
      refine LCg.CompEnd.intro F5 N5 _ (fun _ h => h) off trivial ⟨?_, rfl⟩
      have e9 := take_snoc id hki
      rw [List.map_id, List.map_id] at e9
      rw [e9, id, ← hck]
      exact hys.append (.cons _ _ .nil)
    · rintro ys nw' hyl ⟨hys, rfl⟩
      walk_at "go"
      rename_i D h tk F1 N1 o1'
      have hyl2 : ys.length = ks.length := by rw [hyl]; exact hbl
      rw [List.take_of_length_le (by rw [← hbl]; exact Nat.le_refl _)] at hys
      have hin : KBa.In ks := fun k hk => hr k hk
      k_dflt (refine KBa.make_K F1 N1 (by rfl) (News.isList N1 (List.mem_cons_self)) hys hin (by omega) ?_)
      intro h3 t3' k3 F3 N3 _
      walk_at "go"
      show LeaveS0 _ _ _ _ _ _ _ _
      refine leaveS0_ (by k_asm) (by k_asm) KtsTurn.refl fun kF kN => ?_
      exact hret _ _ _ _ kF (cb_drop kN (by kcf_all)) (KBa.ints_make hin)
end
end
section
section
variable {prog : Program} {w : World} {A : Around} {h₀ : Heap} {L : Addr} {m : Str → Option Value} {env : Env} {ct elt : Expr} {x : Str} {scope : Scope} {cl : List (Str × Addr)} {s : Shared} {S : List (Addr × Obj) → Prop} {P : Nat → Value → Prop} {Fin : List Value → List (Addr × Obj) → Prop} {news : List (Addr × Obj)}
/-- a comprehension with a test, by an invariant over what it has made and the ledger -/
theorem compT_inv {n : Nat} (J : Nat → List Value → List (Addr × Obj) → Prop) (h0 : J 0 [] news)
    (turn : ∀ i v ys nw I oI C oC D m₂ h tk (E' : Value → Shared → Prop), i < n → P i v → J i ys nw → LCg.NsObj oC m₂ → m₂ x = some v → Fr h₀ L h m → News h₀ L h ((I, oI) :: (C, oC) :: (D, LCg.lst ys) :: nw) →
      LCg.Off3 I C D nw → ((@Ne Nat I C) ∧ (@Ne Nat I D) ∧ (@Ne Nat C D)) →
      wpAny (model prog w) A (isTrue ct (compEnvC scope cl C env) (eval ct (compEnvC scope cl C env))) (fun ok s' => if ok = true then
        wpAny (model prog w) A (eval elt (compEnvC scope cl C env)) (LCg.CompEnd h₀ L m { s with heap := h, toks := tk } I oI C oC D (LCg.lst ys) S (fun y nw' => J (i + 1) (ys ++ [y]) nw')) E' s'
        else LCg.CompEnd h₀ L m { s with heap := h, toks := tk } I oI C oC D (LCg.lst ys) S (fun _ nw' => J (i + 1) ys nw') Value.none s') E' { s with heap := h, toks := tk })
    (fin : ∀ ys nw, J n ys nw → Fin ys nw) : LCt.CompRestT prog w A h₀ L m env ct elt x scope cl s S P Fin n 0 [] news := by
  have key : ∀ (j i : Nat) (ys : List Value) (nw : List (Addr × Obj)), i + j = n → J i ys nw → LCt.CompRestT prog w A h₀ L m env ct elt x scope cl s S P Fin j i ys nw := by
    intro j
    induction j with
    | zero =>
      intro i ys nw hi hJ
      obtain rfl : i = n := by omega
      exact LCt.CompRestT.zero (fin ys nw hJ)
    | succ j ih =>
      intro i ys nw hi hJ
      refine LCt.CompRestT.succ ?_
      intro v I oI C oC D m₂ h tk E' hv hC hx F N off ne
      refine wpAny_mono (turn i v ys nw I oI C oC D m₂ h tk E' (by omega) hv hJ hC hx F N off ne) (fun b s₂ hq => ?_) fun _ _ e => e
      cases b with
      | true =>
        simp only [if_true] at hq ⊢
        refine wpAny_mono hq (fun y s₃ hr => ?_) fun _ _ e => e
        obtain ⟨h', tk', nw', e, F', N', off', hS, hJ'⟩ := hr
        exact ⟨h', tk', nw', e, F', N', off', hS, ih (i + 1) _ _ (by omega) hJ'⟩
      | false =>
        simp only [Bool.false_eq_true, if_false] at hq ⊢
        obtain ⟨h', tk', nw', e, F', N', off', hS, hJ'⟩ := hq
        exact ⟨h', tk', nw', e, F', N', off', hS, ih (i + 1) _ _ (by omega) hJ'⟩
  exact key n 0 [] news (by omega) h0
end
/-- the places beyond, as far as they are found -/
def BeyJ (ps : List Int) (i : Nat) (ys : List Value) : Prop := ∃ bs : List Int, IntsAre ys bs ∧ bs.length ≤ i ∧ bs.head? = ((ps.take i).findIdx? (fun k => decide (127 < k))).map fun (j : Nat) => (j : Int)
theorem BeyJ.zero (ps : List Int) : BeyJ ps 0 [] := ⟨[], .nil, Nat.le_refl _, rfl⟩
theorem BeyJ.no {ps : List Int} {i : Nat} {k : Int} {ys : List Value} (h : BeyJ ps i ys) (hk : ps[i]? = some k) (hl : ¬ 127 < k) : BeyJ ps (i + 1) ys := by
  obtain ⟨bs, h1, h3, h2⟩ := h
  refine ⟨bs, h1, Nat.le_succ_of_le h3, ?_⟩
  rw [List.take_add_one, hk, Option.toList_some, List.findIdx?_append, List.findIdx?_singleton, h2]
  simp only [hl, decide_false, Bool.false_eq_true, if_false, Option.map_none, Option.or_none]
theorem BeyJ.yes {ps : List Int} {i : Nat} {k : Int} {t : Tok} {ys : List Value} (h : BeyJ ps i ys) (hk : ps[i]? = some k) (hl : 127 < k) : BeyJ ps (i + 1) (ys ++ [.int (i : Int) t]) := by
  obtain ⟨bs, h1, h3, h2⟩ := h
  have hi : i < ps.length := (List.getElem?_eq_some_iff.mp hk).1
  refine ⟨bs ++ [(i : Int)], h1.append (.cons _ _ .nil), by rw [List.length_append, List.length_singleton]; omega, ?_⟩
  rw [List.take_add_one, hk, Option.toList_some, List.findIdx?_append, List.findIdx?_singleton, List.head?_append, h2]
  simp only [hl, decide_true, if_true, List.length_take, Nat.min_eq_left (Nat.le_of_lt hi), Option.map_some, Nat.zero_add, List.head?_cons]
  cases (ps.take i).findIdx? (fun k => decide (127 < k)) <;> rfl
theorem BeyJ.none {ps : List Int} {ys : List Value} (h : BeyJ ps ps.length ys) (hf : ps.findIdx? (fun k => decide (127 < k)) = none) : ys = [] := by
  obtain ⟨bs, h1, h3, h2⟩ := h
  rw [List.take_length, hf, Option.map_none, List.head?_eq_none_iff] at h2
  subst h2
  cases h1
  rfl
theorem BeyJ.some {ps : List Int} {ys : List Value} {i : Nat} (h : BeyJ ps ps.length ys) (hf : ps.findIdx? (fun k => decide (127 < k)) = some i) : ∃ t zs, ys = .int (i : Int) t :: zs ∧ zs.length ≤ ps.length := by
  obtain ⟨bs, h1, h3, h2⟩ := h
  rw [List.take_length, hf, Option.map_some] at h2
  cases h1 with
  | nil => cases h2
  | cons a t r =>
    have e := Option.some.inj h2
    subst e
    refine ⟨t, _, rfl, ?_⟩
    rw [List.length_cons] at h3
    have := r.length
    omega
end
section
theorem w_cur_0 : True := by
  k_with_none
  (k_with "enter" => (first
      | cell_enter
      | walk_at "enter S"
      | (refine' code_defC (by k_asm) (by k_asm) (by k_asm) (by k_asm) (by k_asm) (by exact rfl) (by exact rfl) (by first | assumption | exact rfl) (by k_is) (by k_is) (by ktr_room) (by first | exact BindsTo.of_eq rfl | exact binds_K (by k_in) rfl (by k_is) rfl rfl rfl) (by exact rfl) (by decide +kernel) ?_ (by exact rfl) (by exact rfl) (by exact rfl); k_whole; intro _ _ _ _ _ _ _ N' Y' B' _ _ l1; (try k_lt l1); k_cells Y'; (try simp only [List.cons_append, List.nil_append] at N'); (try dsimp only); (try k_lift B'); (try k_fold))))
  (k_with "call ref" => ((k_here; k_dflt (first
      | (refine' call_cls0 (by k_asm) (by k_asm) (by k_asm) (by k_is) (by k_is) ?_; k_whole; intro _ _ _ _ _ l1 l2; (try k_lt l1); (try k_lt2 l2); (try k_sweep))
      | (refine' call_cls (by k_asm) (by k_asm) (by k_asm) (by k_is) (by k_is) (by k_is) ?_; k_whole; intro _ _ _ _ _ l1 l2; (try k_lt l1); (try k_lt2 l2); (try k_sweep); walk_at "enter")
      | (refine wpAny_call ?_; walk_at "enter")))))
  (k_with "halt" => ((with_reducible show LCg.CompSrc _ _ _ _ _ _ _ _ _ _ _ _ _ _)))
  (k_with "halt" => ((with_reducible show wpAny _ _ (exec (Stmt.While _ _ _ _) _) _ _ _)))
  (k_with "halt" => ((with_reducible show wpAny _ _ (pyIter _) (fun it s₂ => LoopAtV _ _ _ _ _ _ _ _ _ it s₂) _ _)))
  (k_with "go" => (repeat' ((fail_if_success (walk_at "halt")); first | (k_unfold; (try dsimp only)) | walk1 | (dsimp only; walk1) | (leave1; walk_say "STEP leave1"; (try dsimp only)) | fail "no step")))
  trivial
/-- a reading head's dict -/
abbrev curO (w : World) (b : Array UInt8) (i e : Int) (tb ti te u1 u2 u3 : Tok) : Obj := dictOf [⟨PyData.keyHash w.params (Str.ofString "data"), .str (Str.ofString "data") u1, .bytes b tb⟩, ⟨PyData.keyHash w.params (Str.ofString "at"), .str (Str.ofString "at") u2, .int i ti⟩, ⟨PyData.keyHash w.params (Str.ofString "end"), .str (Str.ofString "end") u3, .int e te⟩] 3
section
variable {w : World} {mean : ExcName → Option Value} {mg mb : Str → Option Value} {news rest : List (Addr × Obj)} {b wd : Array UInt8} {ks ws : List Int} {i e k : Int} {x dx : Addr} {tb ti te u1 u2 u3 tk tw : Tok} {gl : Obj → List (Addr × Obj)}
theorem is_done_h (hb : KBw.bInts b = ks) (hi : 0 ≤ i) (he : i ≤ e) (he2 : e ≤ ks.length) :
    Call w mean mg mb 83 [.ref x] ((dx, curO w b i e tb ti te u1 u2 u3) :: (x, instObj 143 dx) :: rest) 3 24 (fun R => R (.bool (decide (sg ks i e = []))) ((dx, curO w b i e tb ti te u1 u2 u3) :: (x, instObj 143 dx) :: rest) True) := by
  intro dp u gd cn cs a ccd cl outer A₀ base h₀ L m s Q E B F X N T hkk hd hu hret
  rw [← sg_nil hi he he2] at hret
  walk_at "go"
  exact hret _ _ (by k_asm) (by k_asm) trivial
theorem is_done_u (hd1 : (dx, curO w b i e tb ti te u1 u2 u3) ∈ news) (hx1 : (x, instObj 143 dx) ∈ news) (hb : KBw.bInts b = ks) (hi : 0 ≤ i) (he : i ≤ e) (he2 : e ≤ ks.length) :
    Call w mean mg mb 83 [.ref x] news 3 24 (fun R => R (.bool (decide (sg ks i e = []))) news True) :=
  Call.read (ext := [(dx, curO w b i e tb ti te u1 u2 u3), (x, instObj 143 dx)]) (Ret := fun R => R (.bool (decide (sg ks i e = []))) True) (by intro p hp; simp only [List.mem_cons, List.not_mem_nil, or_false] at hp; rcases hp with rfl | rfl <;> assumption) (fun _ _ h => h _ _) (is_done_h hb hi he he2)
theorem peek_h (hb : KBw.bInts b = ks) (hl : ks.length ≤ 100) (hi : 0 ≤ i) (he : i ≤ e) (he2 : e ≤ ks.length) (hk0 : 0 ≤ k) (hk1 : k < 100) :
    Call w mean mg mb 91 [.ref x, .int k tk] ((dx, curO w b i e tb ti te u1 u2 u3) :: (x, instObj 143 dx) :: rest) 3 24 (fun R => ∀ v t, R (.int v t) ((dx, curO w b i e tb ti te u1 u2 u3) :: (x, instObj 143 dx) :: rest) (v = ((sg ks i e)[k.toNat]?).getD (-1))) := by
  intro dp u gd cn cs a ccd cl outer A₀ base h₀ L m s Q E B F X N T hkk hd hu hret
  walk_at "go"
  · refine hret _ _ _ _ (by k_asm) (by k_asm) ?_
    rw [sg_get _ hi he2 (by omega), show (k.toNat : Int) = k by omega]; rfl
  · refine hret _ _ _ _ (by k_asm) (by k_asm) ?_
    rw [sg_none _ hi (by omega)]; rfl
theorem peek_u (hd1 : (dx, curO w b i e tb ti te u1 u2 u3) ∈ news) (hx1 : (x, instObj 143 dx) ∈ news) (hb : KBw.bInts b = ks) (hl : ks.length ≤ 100) (hi : 0 ≤ i) (he : i ≤ e) (he2 : e ≤ ks.length) (hk0 : 0 ≤ k) (hk1 : k < 100) :
    Call w mean mg mb 91 [.ref x, .int k tk] news 3 24 (fun R => ∀ v t, R (.int v t) news (v = ((sg ks i e)[k.toNat]?).getD (-1))) :=
  Call.read (ext := [(dx, curO w b i e tb ti te u1 u2 u3), (x, instObj 143 dx)]) (Ret := fun R => ∀ v t, R (.int v t) (v = ((sg ks i e)[k.toNat]?).getD (-1))) (by intro p hp; simp only [List.mem_cons, List.not_mem_nil, or_false] at hp; rcases hp with rfl | rfl <;> assumption) (fun _ _ h h' v t => h _ _ (h' v t)) (peek_h hb hl hi he he2 hk0 hk1)
theorem take_h (hx : x ≠ dx) (hn1 : ∀ p ∈ rest, p.1 ≠ dx) (hb : KBw.bInts b = ks) (hl : ks.length ≤ 100) (hi : 0 ≤ i) (he : i ≤ e) (he2 : e ≤ ks.length) :
    Call w mean mg mb 98 [.ref x] ((dx, curO w b i e tb ti te u1 u2 u3) :: (x, instObj 143 dx) :: rest) 3 24 (fun R => ∀ v t i' ti', R (.int v t) ((dx, curO w b i' e tb ti' te u1 u2 u3) :: (x, instObj 143 dx) :: rest) (v = ((sg ks i e)[0]?).getD (-1) ∧ i' = if i < e then i + 1 else i)) := by
  intro dp u gd cn cs a ccd cl outer A₀ base h₀ L m s Q E B F X N T hkk hd hu hret
  walk_at "go"
  · refine hret _ _ _ _ _ _ (by k_asm) (by k_asm) ⟨?_, ?_⟩
    · rw [sg_get 0 hi he2 (by omega)]; rfl
    · rw [if_pos (by omega)]
  · refine hret _ _ _ _ _ _ (by k_asm) (by k_asm) ⟨?_, ?_⟩
    · rw [sg_none 0 hi (by omega)]; rfl
    · rw [if_neg (by omega)]
theorem take_u (hx1 : (x, instObj 143 dx) ∈ news) (U : UpdF dx (curO w b i e tb ti te u1 u2 u3) news gl) (hx : x ≠ dx) (hb : KBw.bInts b = ks) (hl : ks.length ≤ 100) (hi : 0 ≤ i) (he : i ≤ e) (he2 : e ≤ ks.length) :
    Call w mean mg mb 98 [.ref x] news 3 24 (fun R => ∀ v t i' ti', R (.int v t) (gl (curO w b i' e tb ti' te u1 u2 u3)) (v = ((sg ks i e)[0]?).getD (-1) ∧ i' = if i < e then i + 1 else i)) :=
  Call.upd (ext := [(x, instObj 143 dx)]) (Ret := fun R => ∀ v t i' ti', R (.int v t) (curO w b i' e tb ti' te u1 u2 u3) (v = ((sg ks i e)[0]?).getD (-1) ∧ i' = if i < e then i + 1 else i)) U (by intro p hp; rw [List.mem_singleton.mp hp]; exact hx1) (fun _ _ h h' v t i' ti' => h _ _ _ (h' v t i' ti')) (fun rest hr => take_h hx hr hb hl hi he he2)
theorem starts_pure {ks ws : List Int} {i e : Int} (hi : 0 ≤ i) (he : i ≤ e) (he2 : e ≤ ks.length) : ((i + (ws.length : Int) ≤ e) ∧ sg ks i (i + ws.length) = ws) ↔ (sg ks i e).take ws.length = ws := by
  have hl := sg_len hi he he2
  constructor
  · rintro ⟨h1, h2⟩
    rw [sg_sub hi (by omega) h1, show (i + (ws.length : Int) - i).toNat = ws.length by omega] at h2
    exact h2
  · intro h
    have h3 : i + (ws.length : Int) ≤ e := by
      have := congrArg List.length h
      rw [List.length_take] at this
      omega
    refine ⟨h3, ?_⟩
    rw [sg_sub hi (by omega) h3, show (i + (ws.length : Int) - i).toNat = ws.length by omega]
    exact h
theorem starts_h (hb : KBw.bInts b = ks) (hwd : KBw.bInts wd = ws) (hws : ws.length ≤ 100) (hl : ks.length ≤ 100) (hi : 0 ≤ i) (he : i ≤ e) (he2 : e ≤ ks.length) :
    Call w mean mg mb 105 [.ref x, .bytes wd tw] ((dx, curO w b i e tb ti te u1 u2 u3) :: (x, instObj 143 dx) :: rest) 3 24 (fun R => ∀ v, R (.bool v) ((dx, curO w b i e tb ti te u1 u2 u3) :: (x, instObj 143 dx) :: rest) (v = decide ((sg ks i e).take ws.length = ws))) := by
  intro dp u gd cn cs a ccd cl outer A₀ base h₀ L m s Q E B F X N T hkk hd hu hret
  have hp := starts_pure (ws := ws) hi he he2
  walk_at "go"
  · refine hret _ _ _ (by k_asm) (by k_asm) ?_
    (rename (i + (ws.length : Int) ≤ e) => q); (rename KBw.bInts (KBy.picked _ _ _) = _ => hc)
    rw [cut_eq hi (by omega)] at hc
    rw [bytes_eqb, hc, hwd]
    exact decide_eq_decide.mpr ⟨fun h => hp.mp ⟨q, h⟩, fun h => (hp.mpr h).2⟩
  · refine hret _ _ _ (by k_asm) (by k_asm) ?_
    exact decide_eq_decide.mpr ⟨fun h => absurd h (by assumption), fun h => (hp.mpr h).1⟩
theorem starts_u (hd1 : (dx, curO w b i e tb ti te u1 u2 u3) ∈ news) (hx1 : (x, instObj 143 dx) ∈ news) (hb : KBw.bInts b = ks) (hwd : KBw.bInts wd = ws) (hws : ws.length ≤ 100) (hl : ks.length ≤ 100) (hi : 0 ≤ i) (he : i ≤ e) (he2 : e ≤ ks.length) :
    Call w mean mg mb 105 [.ref x, .bytes wd tw] news 3 24 (fun R => ∀ v, R (.bool v) news (v = decide ((sg ks i e).take ws.length = ws))) :=
  Call.read (ext := [(dx, curO w b i e tb ti te u1 u2 u3), (x, instObj 143 dx)]) (Ret := fun R => ∀ v, R (.bool v) (v = decide ((sg ks i e).take ws.length = ws))) (by intro p hp; simp only [List.mem_cons, List.not_mem_nil, or_false] at hp; rcases hp with rfl | rfl <;> assumption) (fun _ _ h h' v => h _ _ (h' v)) (starts_h hb hwd hws hl hi he he2)
theorem skip_h (hx : x ≠ dx) (hn1 : ∀ p ∈ rest, p.1 ≠ dx) (hb : KBw.bInts b = ks) (hwd : KBw.bInts wd = ws) (hws : ws.length ≤ 100) (hl : ks.length ≤ 100) (hi : 0 ≤ i) (he : i ≤ e) (he2 : e ≤ ks.length) :
    Call w mean mg mb 112 [.ref x, .bytes wd tw] ((dx, curO w b i e tb ti te u1 u2 u3) :: (x, instObj 143 dx) :: rest) 3 24
      (fun R => ∀ v i' ti', R (.bool v) ((dx, curO w b i' e tb ti' te u1 u2 u3) :: (x, instObj 143 dx) :: rest) (v = decide ((sg ks i e).take ws.length = ws) ∧ i' = if (sg ks i e).take ws.length = ws then i + ws.length else i)) := by
  intro dp u gd cn cs a ccd cl outer A₀ base h₀ L m s Q E B F X N T hkk hd hu hret
  have hp := starts_pure (ws := ws) hi he he2
  walk_at "go"
  · (rename (i + (ws.length : Int) ≤ e) => q); (rename KBw.bInts (KBy.picked _ _ _) = _ => hc); (rename (_ == _) = true => q2)
    rw [bytes_eqb, hc, hwd, cut_eq hi (by omega)] at q2
    have h := hp.mp ⟨q, of_decide_eq_true q2⟩
    exact hret _ _ _ _ _ (by k_asm) (by k_asm) ⟨by rw [decide_eq_true h], by rw [if_pos h]⟩
  · (rename (i + (ws.length : Int) ≤ e) => q); (rename KBw.bInts (KBy.picked _ _ _) = _ => hc); (rename (_ == _) = false => q2)
    rw [bytes_eqb, hc, hwd, cut_eq hi (by omega)] at q2
    have h : ¬ (sg ks i e).take ws.length = ws := fun h => of_decide_eq_false q2 (hp.mpr h).2
    exact hret _ _ _ _ _ (by k_asm) (by k_asm) ⟨by rw [decide_eq_false h], by rw [if_neg h]⟩
  · have h : ¬ (sg ks i e).take ws.length = ws := fun h => absurd (hp.mpr h).1 (by assumption)
    exact hret _ _ _ _ _ (by k_asm) (by k_asm) ⟨by rw [decide_eq_false h], by rw [if_neg h]⟩
theorem skip_u (hx1 : (x, instObj 143 dx) ∈ news) (U : UpdF dx (curO w b i e tb ti te u1 u2 u3) news gl) (hx : x ≠ dx) (hb : KBw.bInts b = ks) (hwd : KBw.bInts wd = ws) (hws : ws.length ≤ 100) (hl : ks.length ≤ 100) (hi : 0 ≤ i) (he : i ≤ e) (he2 : e ≤ ks.length) :
    Call w mean mg mb 112 [.ref x, .bytes wd tw] news 3 24 (fun R => ∀ v i' ti', R (.bool v) (gl (curO w b i' e tb ti' te u1 u2 u3)) (v = decide ((sg ks i e).take ws.length = ws) ∧ i' = if (sg ks i e).take ws.length = ws then i + ws.length else i)) :=
  Call.upd (ext := [(x, instObj 143 dx)]) (Ret := fun R => ∀ v i' ti', R (.bool v) (curO w b i' e tb ti' te u1 u2 u3) (v = decide ((sg ks i e).take ws.length = ws) ∧ i' = if (sg ks i e).take ws.length = ws then i + ws.length else i)) U (by intro p hp; rw [List.mem_singleton.mp hp]; exact hx1) (fun _ _ h h' v i' ti' => h _ _ _ (h' v i' ti')) (fun rest hr => skip_h hx hr hb hwd hws hl hi he he2)
end
end
section
theorem w_tw_0 : True := by
  k_with_none
  (k_with "enter" => (first
      | cell_enter
      | walk_at "enter S"
      | (refine' code_defC (by k_asm) (by k_asm) (by k_asm) (by k_asm) (by k_asm) (by exact rfl) (by exact rfl) (by first | assumption | exact rfl) (by k_is) (by k_is) (by ktr_room) (by first | exact BindsTo.of_eq rfl | exact binds_K (by k_in) rfl (by k_is) rfl rfl rfl) (by exact rfl) (by decide +kernel) ?_ (by exact rfl) (by exact rfl) (by exact rfl); k_whole; intro _ _ _ _ _ _ _ N' Y' B' _ _ l1; (try k_lt l1); k_cells Y'; (try simp only [List.cons_append, List.nil_append] at N'); (try dsimp only); (try k_lift B'); (try k_fold))))
  (k_with "call ref" => ((k_here; k_dflt (first
      | (refine' call_cls0 (by k_asm) (by k_asm) (by k_asm) (by k_is) (by k_is) ?_; k_whole; intro _ _ _ _ _ l1 l2; (try k_lt l1); (try k_lt2 l2); (try k_sweep))
      | (refine' call_cls (by k_asm) (by k_asm) (by k_asm) (by k_is) (by k_is) (by k_is) ?_; k_whole; intro _ _ _ _ _ l1 l2; (try k_lt l1); (try k_lt2 l2); (try k_sweep); walk_at "enter")
      | (refine wpAny_call ?_; walk_at "enter")))))
  (k_with "halt" => ((with_reducible show LCg.CompSrc _ _ _ _ _ _ _ _ _ _ _ _ _ _)))
  (k_with "halt" => ((with_reducible show wpAny _ _ (exec (Stmt.While _ _ _ _) _) _ _ _)))
  (k_with "halt" => ((with_reducible show wpAny _ _ (pyIter _) (fun it s₂ => LoopAtV _ _ _ _ _ _ _ _ _ it s₂) _ _)))
  (k_with "go" => (repeat' ((fail_if_success (walk_at "halt")); first | (k_unfold; (try dsimp only)) | walk1 | (dsimp only; walk1) | (leave1; walk_say "STEP leave1"; (try dsimp only)) | fail "no step")))
  (k_with "compareOp In int bytes" => ((k_here; (with_reducible show wpAny _ _ (compareOp CmpOp.In (Value.int _ _) (Value.bytes _ _)) _ _ _); k_dflt (refine By.in_bytes (by kba_ints) (by omega) (by omega) ?_))))
  (k_with "compareOp NotIn int bytes" => ((k_here; (with_reducible show wpAny _ _ (compareOp CmpOp.NotIn (Value.int _ _) (Value.bytes _ _)) _ _ _); k_dflt (refine By.notin_bytes (by kba_ints) (by omega) (by omega) ?_))))
  trivial
section
variable {w : World} {mean : ExcName → Option Value} {mg mb : Str → Option Value} {news rest : List (Addr × Obj)} {b wd : Array UInt8} {ks ws : List Int} {i e k : Int} {x dx : Addr} {tb ti te u1 u2 u3 tk tw : Tok} {gl : Obj → List (Addr × Obj)}
theorem tw_h (hx : x ≠ dx) (hn1 : ∀ p ∈ rest, p.1 ≠ dx) (hb : KBw.bInts b = ks) (hwd : KBw.bInts wd = ws) (hws : ws.length ≤ 100) (hl : ks.length ≤ 100) (hi : 0 ≤ i) (he : i ≤ e) (he2 : e ≤ ks.length) :
    Call w mean mg mb 119 [.ref x, .bytes wd tw] ((dx, curO w b i e tb ti te u1 u2 u3) :: (x, instObj 143 dx) :: rest) 3 24
      (fun R => ∀ c ls t i' ti', R (.bytes c t) ((dx, curO w b i' e tb ti' te u1 u2 u3) :: (x, instObj 143 dx) :: rest) (KBw.bInts c = ls ∧ ls = (sg ks i e).takeWhile (fun k => decide (k ∈ ws)) ∧ i' = i + ls.length)) := by
  intro dp u gd cn cs a ccd cl outer A₀ base h₀ L m s Q E B F X N T hkk hd hu hret
  walk_at "go"
  rename Fr _ _ _ _ => F1
  rename News _ _ _ _ => N1
  refine While_inv2 (fun n m₁ nx => ∃ i1 t1, nx = (dx, curO w b i1 e tb t1 te u1 u2 u3) :: (x, instObj 143 dx) :: rest ∧ m₁ = _ ∧ i ≤ i1 ∧ i1 ≤ e ∧ n = (e - i1).toNat ∧ Gone (fun k => decide (k ∈ ws)) ks i i1 e) F1 N1 ⟨i, ti, rfl, rfl, Int.le_refl _, he, rfl, Gone.start _ _ _ _⟩ ?_
  rintro n m₁ nx h₁ tk₁ F2 N2 ⟨i1, t1, rfl, rfl, g1, g2, g3, g4⟩
  walk_at "go"
  · exact step2 (by k_asm) (by k_asm) (show (e - (i1 + 1)).toNat < n by omega) ⟨i1 + 1, _, rfl, rfl, by omega, by omega, rfl, g4.step hi g1 (by assumption) he2 (by exact decide_eq_true (by assumption))⟩
  · have hr := g4.stop hi g1 (by assumption) he2 (by exact decide_eq_false (by assumption))
    have hn := sg_len (ks := ks) hi g1 (by omega)
    rename KBw.bInts (KBy.picked _ _ _) = _ => hc
    rw [cut_eq hi (by omega)] at hc
    exact hret _ _ _ _ _ _ _ (by k_asm) (by k_asm) ⟨hc, hr.symm, by omega⟩
  · have hr := g4.done g2 (by assumption)
    have hn := sg_len (ks := ks) hi g1 (by omega)
    rename KBw.bInts (KBy.picked _ _ _) = _ => hc
    rw [cut_eq hi (by omega)] at hc
    exact hret _ _ _ _ _ _ _ (by k_asm) (by k_asm) ⟨hc, hr.symm, by omega⟩
theorem tw_u (hx1 : (x, instObj 143 dx) ∈ news) (U : UpdF dx (curO w b i e tb ti te u1 u2 u3) news gl) (hx : x ≠ dx) (hb : KBw.bInts b = ks) (hwd : KBw.bInts wd = ws) (hws : ws.length ≤ 100) (hl : ks.length ≤ 100) (hi : 0 ≤ i) (he : i ≤ e) (he2 : e ≤ ks.length) :
    Call w mean mg mb 119 [.ref x, .bytes wd tw] news 3 24 (fun R => ∀ c ls t i' ti', R (.bytes c t) (gl (curO w b i' e tb ti' te u1 u2 u3)) (KBw.bInts c = ls ∧ ls = (sg ks i e).takeWhile (fun k => decide (k ∈ ws)) ∧ i' = i + ls.length)) :=
  Call.upd (ext := [(x, instObj 143 dx)]) (Ret := fun R => ∀ c ls t i' ti', R (.bytes c t) (curO w b i' e tb ti' te u1 u2 u3) (KBw.bInts c = ls ∧ ls = (sg ks i e).takeWhile (fun k => decide (k ∈ ws)) ∧ i' = i + ls.length)) U (by intro p hp; rw [List.mem_singleton.mp hp]; exact hx1) (fun _ _ h h' c ls t i' ti' => h _ _ _ (h' c ls t i' ti')) (fun rest hr => tw_h hx hr hb hwd hws hl hi he he2)
theorem tu_h (hx : x ≠ dx) (hn1 : ∀ p ∈ rest, p.1 ≠ dx) (hb : KBw.bInts b = ks) (hwd : KBw.bInts wd = ws) (hws : ws.length ≤ 100) (hl : ks.length ≤ 100) (hi : 0 ≤ i) (he : i ≤ e) (he2 : e ≤ ks.length) :
    Call w mean mg mb 126 [.ref x, .bytes wd tw] ((dx, curO w b i e tb ti te u1 u2 u3) :: (x, instObj 143 dx) :: rest) 3 24
      (fun R => ∀ c ls t i' ti', R (.bytes c t) ((dx, curO w b i' e tb ti' te u1 u2 u3) :: (x, instObj 143 dx) :: rest) (KBw.bInts c = ls ∧ ls = (sg ks i e).takeWhile (fun k => !decide (k ∈ ws)) ∧ i' = i + ls.length)) := by
  intro dp u gd cn cs a ccd cl outer A₀ base h₀ L m s Q E B F X N T hkk hd hu hret
  walk_at "go"
  rename Fr _ _ _ _ => F1
  rename News _ _ _ _ => N1
  refine While_inv2 (fun n m₁ nx => ∃ i1 t1, nx = (dx, curO w b i1 e tb t1 te u1 u2 u3) :: (x, instObj 143 dx) :: rest ∧ m₁ = _ ∧ i ≤ i1 ∧ i1 ≤ e ∧ n = (e - i1).toNat ∧ Gone (fun k => !decide (k ∈ ws)) ks i i1 e) F1 N1 ⟨i, ti, rfl, rfl, Int.le_refl _, he, rfl, Gone.start _ _ _ _⟩ ?_
  rintro n m₁ nx h₁ tk₁ F2 N2 ⟨i1, t1, rfl, rfl, g1, g2, g3, g4⟩
  walk_at "go"
  · have hr := g4.stop hi g1 (by assumption) he2 (by simp only [*, decide_true, Bool.not_true])
    have hn := sg_len (ks := ks) hi g1 (by omega)
    rename KBw.bInts (KBy.picked _ _ _) = _ => hc
    rw [cut_eq hi (by omega)] at hc
    exact hret _ _ _ _ _ _ _ (by k_asm) (by k_asm) ⟨hc, hr.symm, by omega⟩
  · exact step2 (by k_asm) (by k_asm) (show (e - (i1 + 1)).toNat < n by omega) ⟨i1 + 1, _, rfl, rfl, by omega, by omega, rfl, g4.step hi g1 (by assumption) he2 (by simp only [*, decide_false, Bool.not_false])⟩
  · have hr := g4.done g2 (by assumption)
    have hn := sg_len (ks := ks) hi g1 (by omega)
    rename KBw.bInts (KBy.picked _ _ _) = _ => hc
    rw [cut_eq hi (by omega)] at hc
    exact hret _ _ _ _ _ _ _ (by k_asm) (by k_asm) ⟨hc, hr.symm, by omega⟩
theorem tu_u (hx1 : (x, instObj 143 dx) ∈ news) (U : UpdF dx (curO w b i e tb ti te u1 u2 u3) news gl) (hx : x ≠ dx) (hb : KBw.bInts b = ks) (hwd : KBw.bInts wd = ws) (hws : ws.length ≤ 100) (hl : ks.length ≤ 100) (hi : 0 ≤ i) (he : i ≤ e) (he2 : e ≤ ks.length) :
    Call w mean mg mb 126 [.ref x, .bytes wd tw] news 3 24 (fun R => ∀ c ls t i' ti', R (.bytes c t) (gl (curO w b i' e tb ti' te u1 u2 u3)) (KBw.bInts c = ls ∧ ls = (sg ks i e).takeWhile (fun k => !decide (k ∈ ws)) ∧ i' = i + ls.length)) :=
  Call.upd (ext := [(x, instObj 143 dx)]) (Ret := fun R => ∀ c ls t i' ti', R (.bytes c t) (curO w b i' e tb ti' te u1 u2 u3) (KBw.bInts c = ls ∧ ls = (sg ks i e).takeWhile (fun k => !decide (k ∈ ws)) ∧ i' = i + ls.length)) U (by intro p hp; rw [List.mem_singleton.mp hp]; exact hx1) (fun _ _ h h' c ls t i' ti' => h _ _ _ (h' c ls t i' ti')) (fun rest hr => tu_h hx hr hb hwd hws hl hi he he2)
end
end
section
theorem w_num_0 : True := by
  k_with_none
  (k_with "enter" => (first
      | cell_enter
      | walk_at "enter S"
      | (refine' code_defC (by k_asm) (by k_asm) (by k_asm) (by k_asm) (by k_asm) (by exact rfl) (by exact rfl) (by first | assumption | exact rfl) (by k_is) (by k_is) (by ktr_room) (by first | exact BindsTo.of_eq rfl | exact binds_K (by k_in) rfl (by k_is) rfl rfl rfl) (by exact rfl) (by decide +kernel) ?_ (by exact rfl) (by exact rfl) (by exact rfl); k_whole; intro _ _ _ _ _ _ _ N' Y' B' _ _ l1; (try k_lt l1); k_cells Y'; (try simp only [List.cons_append, List.nil_append] at N'); (try dsimp only); (try k_lift B'); (try k_fold))))
  (k_with "call ref" => ((k_here; k_dflt (first
      | (refine' call_cls0 (by k_asm) (by k_asm) (by k_asm) (by k_is) (by k_is) ?_; k_whole; intro _ _ _ _ _ l1 l2; (try k_lt l1); (try k_lt2 l2); (try k_sweep))
      | (refine' call_cls (by k_asm) (by k_asm) (by k_asm) (by k_is) (by k_is) (by k_is) ?_; k_whole; intro _ _ _ _ _ l1 l2; (try k_lt l1); (try k_lt2 l2); (try k_sweep); walk_at "enter")
      | (refine wpAny_call ?_; walk_at "enter")))))
  (k_with "halt" => ((with_reducible show LCg.CompSrc _ _ _ _ _ _ _ _ _ _ _ _ _ _)))
  (k_with "halt" => ((with_reducible show wpAny _ _ (exec (Stmt.While _ _ _ _) _) _ _ _)))
  (k_with "halt" => ((with_reducible show wpAny _ _ (pyIter _) (fun it s₂ => LoopAtV _ _ _ _ _ _ _ _ _ it s₂) _ _)))
  (k_with "go" => (repeat' ((fail_if_success (walk_at "halt")); first | (k_unfold; (try dsimp only)) | walk1 | (dsimp only; walk1) | (leave1; walk_say "STEP leave1"; (try dsimp only)) | fail "no step")))
  (k_with "compareOp In int bytes" => ((k_here; (with_reducible show wpAny _ _ (compareOp CmpOp.In (Value.int _ _) (Value.bytes _ _)) _ _ _); k_dflt (refine By.in_bytes (by kba_ints) (by omega) (by omega) ?_))))
  (k_with "compareOp NotIn int bytes" => ((k_here; (with_reducible show wpAny _ _ (compareOp CmpOp.NotIn (Value.int _ _) (Value.bytes _ _)) _ _ _); k_dflt (refine By.notin_bytes (by kba_ints) (by omega) (by omega) ?_))))
  (k_with "getMethod bytes" => ((k_here; (with_reducible refine By.find_method ?_))))
  (k_with "call builtin:bytes.find" => ((k_here; k_dflt (first | refine By.find2 (by kba_ints) (by kba_ints2) ?_ | refine By.find4 (by kba_ints) (by kba_ints2) (by omega) (by omega) (by omega) ?_))))
  (k_with "getMethod bytes" => ((k_here; (with_reducible refine By.replace_method ?_))))
  (k_with "call builtin:bytes.replace" => ((k_here; k_dflt (refine By.replace3 (by kba_ints) (by kba_ints2) (by kba_ints2) (by decide) (by omega) (by decide) ?_); intro _ _ _ _ _)))
  trivial
section
variable {w : World} {mean : ExcName → Option Value} {mg mb : Str → Option Value} {news rest : List (Addr × Obj)} {b wd : Array UInt8} {ks ws : List Int} {i e k : Int} {x dx : Addr} {tb ti te u1 u2 u3 tk tw : Tok} {gl : Obj → List (Addr × Obj)}
theorem num_h (hx : x ≠ dx) (hn1 : ∀ p ∈ rest, p.1 ≠ dx) (hb : KBw.bInts b = ks) (hl : ks.length ≤ 30) (hi : 0 ≤ i) (he : i ≤ e) (he2 : e ≤ ks.length) :
    Call w mean mg mb 133 [.ref x] ((dx, curO w b i e tb ti te u1 u2 u3) :: (x, instObj 143 dx) :: rest) 5 48
      (fun R => (∀ t i' ti', R (.int (dval ((sg ks i e).takeWhile isd)) t) ((dx, curO w b i' e tb ti' te u1 u2 u3) :: (x, instObj 143 dx) :: rest) ((sg ks i e).takeWhile isd ≠ [] ∧ ((sg ks i e).takeWhile isd).length ≤ 20 ∧ i' = i + ((sg ks i e).takeWhile isd).length)) ∧
        (∀ i' ti', R .none ((dx, curO w b i' e tb ti' te u1 u2 u3) :: (x, instObj 143 dx) :: rest) (((sg ks i e).takeWhile isd = [] ∨ 20 < ((sg ks i e).takeWhile isd).length) ∧ i' = i))) := by
  intro dp u gd cn cs a ccd cl outer A₀ base h₀ L m s Q E B F X N T hkk hd hu hret
  walk_at "go"
  rename Fr _ _ _ _ => F1
  rename News _ _ _ _ => N1
  refine While_int (Str.ofString "number") (fun n v nx => ∃ i1 t1, nx = (dx, curO w b i1 e tb t1 te u1 u2 u3) :: (x, instObj 143 dx) :: rest ∧ v = dval (sg ks i i1) ∧ i ≤ i1 ∧ i1 ≤ e ∧ n = (e - i1).toNat ∧ Gone isd ks i i1 e) F1 N1 ⟨i, ti, rfl, by rw [sg_self]; rfl, Int.le_refl _, he, rfl, Gone.start _ _ _ _⟩ ?_
  rintro n v t nx h₁ tk₁ F2 N2 ⟨i1, t1, rfl, rfl, g1, g2, g3, g4⟩
  walk_at "go"
  · refine step2 (fr_twice (by k_asm)) (by k_asm) (show (e - (i1 + 1)).toNat < n by omega) ⟨_, _, rfl, i1 + 1, _, rfl, ?_, by omega, by omega, rfl, g4.step hi g1 (by omega) he2 ?_⟩
    · rw [sg_snoc hi g1 (by omega), dval, dval, List.foldl_append, Int.add_zero]; rfl
    · simp only [Int.add_zero] at *
      simp only [isd, Bool.and_eq_true, decide_eq_true_eq]
      exact ⟨by assumption, by assumption⟩
  all_goals
    have hr : (sg ks i e).takeWhile isd = sg ks i i1 := by
      first
      | exact g4.done g2 (by omega)
      | (refine g4.stop hi g1 (by omega) he2 ?_; (simp only [Int.add_zero] at *); (simp only [isd, Bool.and_eq_false_iff, decide_eq_false_iff_not]); first | exact .inl (by assumption) | exact .inr (by assumption))
    have hn := sg_len (ks := ks) hi g1 (by omega)
    first
    | exact hret.2 _ _ _ _ (by k_asm) (by k_asm) ⟨.inl (by rw [hr]; exact List.length_eq_zero_iff.mp (by omega)), rfl⟩
    | exact hret.2 _ _ _ _ (by k_asm) (by k_asm) ⟨.inr (by rw [hr]; omega), rfl⟩
    | (rw [← hr] at *; exact hret.1 _ _ _ _ _ (by k_asm) (by k_asm) ⟨(by intro h; rw [h] at hn; simp only [List.length_nil] at hn; omega), by omega, by omega⟩)
theorem num_u (hx1 : (x, instObj 143 dx) ∈ news) (U : UpdF dx (curO w b i e tb ti te u1 u2 u3) news gl) (hx : x ≠ dx) (hb : KBw.bInts b = ks) (hl : ks.length ≤ 30) (hi : 0 ≤ i) (he : i ≤ e) (he2 : e ≤ ks.length) :
    Call w mean mg mb 133 [.ref x] news 5 48 (fun R => (∀ t i' ti', R (.int (dval ((sg ks i e).takeWhile isd)) t) (gl (curO w b i' e tb ti' te u1 u2 u3)) ((sg ks i e).takeWhile isd ≠ [] ∧ ((sg ks i e).takeWhile isd).length ≤ 20 ∧ i' = i + ((sg ks i e).takeWhile isd).length)) ∧
        (∀ i' ti', R .none (gl (curO w b i' e tb ti' te u1 u2 u3)) (((sg ks i e).takeWhile isd = [] ∨ 20 < ((sg ks i e).takeWhile isd).length) ∧ i' = i))) :=
  Call.upd (ext := [(x, instObj 143 dx)]) (Ret := fun R => (∀ t i' ti', R (.int (dval ((sg ks i e).takeWhile isd)) t) (curO w b i' e tb ti' te u1 u2 u3) ((sg ks i e).takeWhile isd ≠ [] ∧ ((sg ks i e).takeWhile isd).length ≤ 20 ∧ i' = i + ((sg ks i e).takeWhile isd).length)) ∧
        (∀ i' ti', R .none (curO w b i' e tb ti' te u1 u2 u3) (((sg ks i e).takeWhile isd = [] ∨ 20 < ((sg ks i e).takeWhile isd).length) ∧ i' = i)))
    U (by intro p hp; rw [List.mem_singleton.mp hp]; exact hx1) (fun _ _ h h' => ⟨fun t i' ti' => h _ _ _ (h'.1 t i' ti'), fun i' ti' => h _ _ _ (h'.2 i' ti')⟩) (fun rest hr => num_h hx hr hb hl hi he he2)
end
end
section
theorem w_hfind_0 : True := by
  k_with_none
  (k_with "enter" => (first
      | cell_enter
      | walk_at "enter S"
      | (refine' code_defC (by k_asm) (by k_asm) (by k_asm) (by k_asm) (by k_asm) (by exact rfl) (by exact rfl) (by first | assumption | exact rfl) (by k_is) (by k_is) (by ktr_room) (by first | exact BindsTo.of_eq rfl | exact binds_K (by k_in) rfl (by k_is) rfl rfl rfl) (by exact rfl) (by decide +kernel) ?_ (by exact rfl) (by exact rfl) (by exact rfl); k_whole; intro _ _ _ _ _ _ _ N' Y' B' _ _ l1; (try k_lt l1); k_cells Y'; (try simp only [List.cons_append, List.nil_append] at N'); (try dsimp only); (try k_lift B'); (try k_fold))))
  (k_with "call ref" => ((k_here; k_dflt (first
      | (refine' call_cls0 (by k_asm) (by k_asm) (by k_asm) (by k_is) (by k_is) ?_; k_whole; intro _ _ _ _ _ l1 l2; (try k_lt l1); (try k_lt2 l2); (try k_sweep))
      | (refine' call_cls (by k_asm) (by k_asm) (by k_asm) (by k_is) (by k_is) (by k_is) ?_; k_whole; intro _ _ _ _ _ l1 l2; (try k_lt l1); (try k_lt2 l2); (try k_sweep); walk_at "enter")
      | (refine wpAny_call ?_; walk_at "enter")))))
  (k_with "halt" => ((with_reducible show LCg.CompSrc _ _ _ _ _ _ _ _ _ _ _ _ _ _)))
  (k_with "halt" => ((with_reducible show wpAny _ _ (exec (Stmt.While _ _ _ _) _) _ _ _)))
  (k_with "halt" => ((with_reducible show wpAny _ _ (pyIter _) (fun it s₂ => LoopAtV _ _ _ _ _ _ _ _ _ it s₂) _ _)))
  (k_with "go" => (repeat' ((fail_if_success (walk_at "halt")); first | (k_unfold; (try dsimp only)) | walk1 | (dsimp only; walk1) | (leave1; walk_say "STEP leave1"; (try dsimp only)) | fail "no step")))
  (k_with "compareOp In int bytes" => ((k_here; (with_reducible show wpAny _ _ (compareOp CmpOp.In (Value.int _ _) (Value.bytes _ _)) _ _ _); k_dflt (refine By.in_bytes (by kba_ints) (by omega) (by omega) ?_))))
  (k_with "compareOp NotIn int bytes" => ((k_here; (with_reducible show wpAny _ _ (compareOp CmpOp.NotIn (Value.int _ _) (Value.bytes _ _)) _ _ _); k_dflt (refine By.notin_bytes (by kba_ints) (by omega) (by omega) ?_))))
  (k_with "getMethod bytes" => ((k_here; (with_reducible refine By.find_method ?_))))
  (k_with "call builtin:bytes.find" => ((k_here; k_dflt (first | refine By.find2 (by kba_ints) (by kba_ints2) ?_ | refine By.find4 (by kba_ints) (by kba_ints2) (by omega) (by omega) (by omega) ?_))))
  trivial
section
variable {w : World} {mean : ExcName → Option Value} {mg mb : Str → Option Value} {news rest : List (Addr × Obj)} {b wd : Array UInt8} {ks ws : List Int} {i e k : Int} {x dx : Addr} {tb ti te u1 u2 u3 tk tw : Tok}
theorem hfind_h (hb : KBw.bInts b = ks) (hwd : KBw.bInts wd = ws) (hl : ks.length ≤ 100) (hi : 0 ≤ i) (he : i ≤ e) (he2 : e ≤ ks.length) :
    Call w mean mg mb 140 [.ref x, .bytes wd tw] ((dx, curO w b i e tb ti te u1 u2 u3) :: (x, instObj 143 dx) :: rest) 3 24 (fun R => ∀ v t, R (.int v t) ((dx, curO w b i e tb ti te u1 u2 u3) :: (x, instObj 143 dx) :: rest) (v = occV (sg ks i e) ws i)) := by
  intro dp u gd cn cs a ccd cl outer A₀ base h₀ L m s Q E B F X N T hkk hd hu hret
  walk_at "go"
  exact hret _ _ _ _ (by k_asm) (by k_asm) rfl
theorem hfind_u (hd1 : (dx, curO w b i e tb ti te u1 u2 u3) ∈ news) (hx1 : (x, instObj 143 dx) ∈ news) (hb : KBw.bInts b = ks) (hwd : KBw.bInts wd = ws) (hl : ks.length ≤ 100) (hi : 0 ≤ i) (he : i ≤ e) (he2 : e ≤ ks.length) :
    Call w mean mg mb 140 [.ref x, .bytes wd tw] news 3 24 (fun R => ∀ v t, R (.int v t) news (v = occV (sg ks i e) ws i)) :=
  Call.read (ext := [(dx, curO w b i e tb ti te u1 u2 u3), (x, instObj 143 dx)]) (Ret := fun R => ∀ v t, R (.int v t) (v = occV (sg ks i e) ws i)) (by intro p hp; simp only [List.mem_cons, List.not_mem_nil, or_false] at hp; rcases hp with rfl | rfl <;> assumption) (fun _ _ h h' v t => h _ _ (h' v t)) (hfind_h hb hwd hl hi he he2)
end
end
section
theorem w_lines_0 : True := by
  k_with_none
  (k_with "enter" => (first
      | cell_enter
      | walk_at "enter S"
      | (refine' code_defC (by k_asm) (by k_asm) (by k_asm) (by k_asm) (by k_asm) (by exact rfl) (by exact rfl) (by first | assumption | exact rfl) (by k_is) (by k_is) (by ktr_room) (by first | exact BindsTo.of_eq rfl | exact binds_K (by k_in) rfl (by k_is) rfl rfl rfl) (by exact rfl) (by decide +kernel) ?_ (by exact rfl) (by exact rfl) (by exact rfl); k_whole; intro _ _ _ _ _ _ _ N' Y' B' _ _ l1; (try k_lt l1); k_cells Y'; (try simp only [List.cons_append, List.nil_append] at N'); (try dsimp only); (try k_lift B'); (try k_fold))))
  (k_with "call ref" => ((k_here; k_dflt (first
      | (refine' call_cls0 (by k_asm) (by k_asm) (by k_asm) (by k_is) (by k_is) ?_; k_whole; intro _ _ _ _ _ l1 l2; (try k_lt l1); (try k_lt2 l2); (try k_sweep))
      | (refine' call_cls (by k_asm) (by k_asm) (by k_asm) (by k_is) (by k_is) (by k_is) ?_; k_whole; intro _ _ _ _ _ l1 l2; (try k_lt l1); (try k_lt2 l2); (try k_sweep); walk_at "enter")
      | (refine wpAny_call ?_; walk_at "enter")))))
  (k_with "halt" => ((with_reducible show LCg.CompSrc _ _ _ _ _ _ _ _ _ _ _ _ _ _)))
  (k_with "halt" => ((with_reducible show wpAny _ _ (exec (Stmt.While _ _ _ _) _) _ _ _)))
  (k_with "halt" => ((with_reducible show wpAny _ _ (pyIter _) (fun it s₂ => LoopAtV _ _ _ _ _ _ _ _ _ it s₂) _ _)))
  (k_with "go" => (repeat' ((fail_if_success (walk_at "halt")); first | (k_unfold; (try dsimp only)) | walk1 | (dsimp only; walk1) | (leave1; walk_say "STEP leave1"; (try dsimp only)) | fail "no step")))
  (k_with "compareOp In int bytes" => ((k_here; (with_reducible show wpAny _ _ (compareOp CmpOp.In (Value.int _ _) (Value.bytes _ _)) _ _ _); k_dflt (refine By.in_bytes (by kba_ints) (by omega) (by omega) ?_))))
  (k_with "compareOp NotIn int bytes" => ((k_here; (with_reducible show wpAny _ _ (compareOp CmpOp.NotIn (Value.int _ _) (Value.bytes _ _)) _ _ _); k_dflt (refine By.notin_bytes (by kba_ints) (by omega) (by omega) ?_))))
  (k_with "getMethod bytes" => ((k_here; (with_reducible refine By.find_method ?_))))
  (k_with "call builtin:bytes.find" => ((k_here; k_dflt (first | refine By.find2 (by kba_ints) (by kba_ints2) ?_ | refine By.find4 (by kba_ints) (by kba_ints2) (by omega) (by omega) (by omega) ?_))))
  (k_with "getMethod bytes" => ((k_here; (with_reducible refine By.replace_method ?_))))
  (k_with "call builtin:bytes.replace" => ((k_here; k_dflt (refine By.replace3 (by kba_ints) (by kba_ints2) (by kba_ints2) (by decide) (by omega) (by decide) ?_); intro _ _ _ _ _)))
  (k_with "call ref" => ((k_here; (with_reducible show wpAny _ _ (PySem.call (Value.ref 220) [Value.ref _, Value.int _ _]) _ _ _); k_dflt (refine' Call.use (by k_asm) (by k_asm) (by k_asm) (by k_asm) (by k_asm) (by first | assumption | exact rfl) (by ktr_room) (by ktr_units) (draw_upd (U := (by k_updF)) (hc := (by k_ne)) (hm := (by k_mem)) (hi := (by assumption)) (hlen := (by assumption)) (hg0 := (by omega)) (hg := (by omega)) (hst0 := (by omega)) (hst := (by omega)) (hpl0 := (by omega)) (hpl := (by omega)) (hl := (by omega)) (hl' := (by omega))) ?_; intro _ _ _ _ _ _ _ _ _ _ _ _ hP'; obtain ⟨_, _, _, _, _, _⟩ := hP'; (try dsimp only); (try k_sweep)))))
  trivial
theorem w_lines_1 : True := by
  (k_with "call ref" => ((k_here; (with_reducible show wpAny _ _ (PySem.call (Value.ref 226) [Value.ref _, Value.int _ _]) _ _ _); k_dflt (refine' Call.use (by k_asm) (by k_asm) (by k_asm) (by k_asm) (by k_asm) (by first | assumption | exact rfl) (by ktr_room) (by ktr_units) (octets_u (U := (by k_updF)) (hc := (by k_ne)) (hm := (by k_mem)) (hi := (by assumption)) (hlen := (by assumption)) (hg0 := (by first | with_reducible assumption | omega)) (hg := (by first | with_reducible assumption | omega)) (hst0 := (by first | with_reducible assumption | omega)) (hst := (by first | with_reducible assumption | omega)) (hpl0 := (by first | with_reducible assumption | omega)) (hpl := (by first | with_reducible assumption | omega)) (hl := (by first | with_reducible assumption | omega)) (hl' := (by first | with_reducible assumption | omega))) ?_; intro wB wK _ _ _ _ _ _ _ _ _ _ _ _ hP'; obtain ⟨hb', hkl', hkm', _, _, _, _, _, _⟩ := hP'; (have hkl2' := hkl'); (have wH := hb'); (have wM := hkm'); (try dsimp only); (try k_sweep)))))
  (k_with "call ref" => ((k_here; (with_reducible show wpAny _ _ (PySem.call (Value.ref 83) _) _ _ _); k_dflt (refine' Call.use (by k_asm) (by k_asm) (by k_asm) (by k_asm) (by k_asm) (by first | assumption | exact rfl) (by ktr_room) (by ktr_units) (is_done_u (hx1 := (by k_mem)) (hd1 := (by k_mem)) (hb := (by assumption)) (hi := (by first | with_reducible assumption | omega)) (he := (by first | with_reducible assumption | omega)) (he2 := (by first | with_reducible assumption | omega))) ?_; intro _ _ _ _ _; (try dsimp only); (try k_sweep)))))
  (k_with "call ref" => ((k_here; (with_reducible show wpAny _ _ (PySem.call (Value.ref 91) [Value.ref _, Value.int _ _]) _ _ _); k_dflt (refine' Call.use (by k_asm) (by k_asm) (by k_asm) (by k_asm) (by k_asm) (by first | assumption | exact rfl) (by ktr_room) (by ktr_units) (peek_u (hx1 := (by k_mem)) (hd1 := (by k_mem)) (hb := (by assumption)) (hi := (by first | with_reducible assumption | omega)) (he := (by first | with_reducible assumption | omega)) (he2 := (by first | with_reducible assumption | omega)) (hl := (by first | with_reducible assumption | omega)) (hk0 := (by first | with_reducible assumption | omega)) (hk1 := (by first | with_reducible assumption | omega))) ?_; intro vR _ _ _ _ _ hvR; (try dsimp only); (try k_sweep)))))
  (k_with "call ref" => ((k_here; (with_reducible show wpAny _ _ (PySem.call (Value.ref 98) _) _ _ _); k_dflt (refine' Call.use (by k_asm) (by k_asm) (by k_asm) (by k_asm) (by k_asm) (by first | assumption | exact rfl) (by ktr_room) (by ktr_units) (take_u (hx1 := (by k_mem)) (U := (by k_updF)) (hx := (by k_ne)) (hb := (by assumption)) (hi := (by first | with_reducible assumption | omega)) (he := (by first | with_reducible assumption | omega)) (he2 := (by first | with_reducible assumption | omega)) (hl := (by first | with_reducible assumption | omega))) ?_; intro vR _ iR _ _ _ _ _ hP'; (have hvR := And.left hP'); (have hiR := And.right hP'); (try dsimp only); (try k_sweep)))))
  (k_with "call ref" => ((k_here; (with_reducible show wpAny _ _ (PySem.call (Value.ref 105) [Value.ref _, Value.bytes _ _]) _ _ _); k_dflt (refine' Call.use (by k_asm) (by k_asm) (by k_asm) (by k_asm) (by k_asm) (by first | assumption | exact rfl) (by ktr_room) (by ktr_units) (starts_u (hx1 := (by k_mem)) (hd1 := (by k_mem)) (hb := (by assumption)) (hi := (by first | with_reducible assumption | omega)) (he := (by first | with_reducible assumption | omega)) (he2 := (by first | with_reducible assumption | omega)) (hl := (by first | with_reducible assumption | omega)) (hwd := (by kba_ints2)) (hws := (by first | with_reducible assumption | omega))) ?_; intro vR _ _ _ _ hvR; (try dsimp only); (try k_sweep)))))
  (k_with "call ref" => ((k_here; (with_reducible show wpAny _ _ (PySem.call (Value.ref 112) [Value.ref _, Value.bytes _ _]) _ _ _); k_dflt (refine' Call.use (by k_asm) (by k_asm) (by k_asm) (by k_asm) (by k_asm) (by first | assumption | exact rfl) (by ktr_room) (by ktr_units) (skip_u (hx1 := (by k_mem)) (U := (by k_updF)) (hx := (by k_ne)) (hb := (by assumption)) (hi := (by first | with_reducible assumption | omega)) (he := (by first | with_reducible assumption | omega)) (he2 := (by first | with_reducible assumption | omega)) (hl := (by first | with_reducible assumption | omega)) (hwd := (by kba_ints2)) (hws := (by first | with_reducible assumption | omega))) ?_; intro vS iR _ _ _ _ _ hP'; (have hvS := And.left hP'); (have hiR := And.right hP'); (try dsimp only); (try k_sweep)))))
  (k_with "call ref" => ((k_here; (with_reducible show wpAny _ _ (PySem.call (Value.ref 119) [Value.ref _, Value.bytes _ _]) _ _ _); k_dflt (refine' Call.use (by k_asm) (by k_asm) (by k_asm) (by k_asm) (by k_asm) (by first | assumption | exact rfl) (by ktr_room) (by ktr_units) (tw_u (hx1 := (by k_mem)) (U := (by k_updF)) (hx := (by k_ne)) (hb := (by assumption)) (hi := (by first | with_reducible assumption | omega)) (he := (by first | with_reducible assumption | omega)) (he2 := (by first | with_reducible assumption | omega)) (hl := (by first | with_reducible assumption | omega)) (hwd := (by kba_ints2)) (hws := (by first | with_reducible assumption | omega))) ?_; intro cR lsR _ iR _ _ _ _ _ hP'; (have hcR := And.left hP'); (have hlsR := And.left (And.right hP')); (have hiR := And.right (And.right hP')); (try dsimp only); (try k_sweep)))))
  (k_with "call ref" => ((k_here; (with_reducible show wpAny _ _ (PySem.call (Value.ref 126) [Value.ref _, Value.bytes _ _]) _ _ _); k_dflt (refine' Call.use (by k_asm) (by k_asm) (by k_asm) (by k_asm) (by k_asm) (by first | assumption | exact rfl) (by ktr_room) (by ktr_units) (tu_u (hx1 := (by k_mem)) (U := (by k_updF)) (hx := (by k_ne)) (hb := (by assumption)) (hi := (by first | with_reducible assumption | omega)) (he := (by first | with_reducible assumption | omega)) (he2 := (by first | with_reducible assumption | omega)) (hl := (by first | with_reducible assumption | omega)) (hwd := (by kba_ints2)) (hws := (by first | with_reducible assumption | omega))) ?_; intro cR lsR _ iR _ _ _ _ _ hP'; (have hcR := And.left hP'); (have hlsR := And.left (And.right hP')); (have hiR := And.right (And.right hP')); (try dsimp only); (try k_sweep)))))
  (k_with "call ref" => ((k_here; (with_reducible show wpAny _ _ (PySem.call (Value.ref 133) _) _ _ _); k_dflt (refine' Call.use (by k_asm) (by k_asm) (by k_asm) (by k_asm) (by k_asm) (by first | assumption | exact rfl) (by ktr_room) (by ktr_units) (num_u (hx1 := (by k_mem)) (U := (by k_updF)) (hx := (by k_ne)) (hb := (by assumption)) (hi := (by first | with_reducible assumption | omega)) (he := (by first | with_reducible assumption | omega)) (he2 := (by first | with_reducible assumption | omega)) (hl := (by first | with_reducible assumption | omega))) ?_; refine ⟨fun t' iR ti' h' tk' F' N' hnR => ?_, fun iR ti' h' tk' F' N' hnR => ?_⟩ <;> (try dsimp only) <;> (try k_sweep); (try dsimp only); (try k_sweep)))))
  (k_with "call ref" => ((k_here; (with_reducible show wpAny _ _ (PySem.call (Value.ref 140) [Value.ref _, Value.bytes _ _]) _ _ _); k_dflt (refine' Call.use (by k_asm) (by k_asm) (by k_asm) (by k_asm) (by k_asm) (by first | assumption | exact rfl) (by ktr_room) (by ktr_units) (hfind_u (hx1 := (by k_mem)) (hd1 := (by k_mem)) (hb := (by assumption)) (hi := (by first | with_reducible assumption | omega)) (he := (by first | with_reducible assumption | omega)) (he2 := (by first | with_reducible assumption | omega)) (hl := (by first | with_reducible assumption | omega)) (hwd := (by kba_ints2))) ?_; intro vR _ _ _ _ _ hvR; (try dsimp only); (try k_sweep)))))
  trivial
end
section
theorem w_deed_0 : True := by
  k_with_none
  (k_with "enter" => (first
      | cell_enter
      | walk_at "enter S"
      | (refine' code_defC (by k_asm) (by k_asm) (by k_asm) (by k_asm) (by k_asm) (by exact rfl) (by exact rfl) (by first | assumption | exact rfl) (by k_is) (by k_is) (by ktr_room) (by first | exact BindsTo.of_eq rfl | exact binds_K (by k_in) rfl (by k_is) rfl rfl rfl) (by exact rfl) (by decide +kernel) ?_ (by exact rfl) (by exact rfl) (by exact rfl); k_whole; intro _ _ _ _ _ _ _ N' Y' B' _ _ l1; (try k_lt l1); k_cells Y'; (try simp only [List.cons_append, List.nil_append] at N'); (try dsimp only); (try k_lift B'); (try k_fold))))
  (k_with "call ref" => ((k_here; k_dflt (first
      | (refine' call_cls0 (by k_asm) (by k_asm) (by k_asm) (by k_is) (by k_is) ?_; k_whole; intro _ _ _ _ _ l1 l2; (try k_lt l1); (try k_lt2 l2); (try k_sweep))
      | (refine' call_cls (by k_asm) (by k_asm) (by k_asm) (by k_is) (by k_is) (by k_is) ?_; k_whole; intro _ _ _ _ _ l1 l2; (try k_lt l1); (try k_lt2 l2); (try k_sweep); walk_at "enter")
      | (refine wpAny_call ?_; walk_at "enter")))))
  (k_with "halt" => ((with_reducible show LCg.CompSrc _ _ _ _ _ _ _ _ _ _ _ _ _ _)))
  (k_with "halt" => ((with_reducible show wpAny _ _ (exec (Stmt.While _ _ _ _) _) _ _ _)))
  (k_with "halt" => ((with_reducible show wpAny _ _ (pyIter _) (fun it s₂ => LoopAtV _ _ _ _ _ _ _ _ _ it s₂) _ _)))
  (k_with "go" => (repeat' ((fail_if_success (walk_at "halt")); first | (k_unfold; (try dsimp only)) | walk1 | (dsimp only; walk1) | (leave1; walk_say "STEP leave1"; (try dsimp only)) | fail "no step")))
  (k_with "compareOp In int bytes" => ((k_here; (with_reducible show wpAny _ _ (compareOp CmpOp.In (Value.int _ _) (Value.bytes _ _)) _ _ _); k_dflt (refine By.in_bytes (by kba_ints) (by omega) (by omega) ?_))))
  (k_with "compareOp NotIn int bytes" => ((k_here; (with_reducible show wpAny _ _ (compareOp CmpOp.NotIn (Value.int _ _) (Value.bytes _ _)) _ _ _); k_dflt (refine By.notin_bytes (by kba_ints) (by omega) (by omega) ?_))))
  (k_with "getMethod bytes" => ((k_here; (with_reducible refine By.find_method ?_))))
  (k_with "call builtin:bytes.find" => ((k_here; k_dflt (first | refine By.find2 (by kba_ints) (by kba_ints2) ?_ | refine By.find4 (by kba_ints) (by kba_ints2) (by omega) (by omega) (by omega) ?_))))
  (k_with "getMethod bytes" => ((k_here; (with_reducible refine By.replace_method ?_))))
  (k_with "call builtin:bytes.replace" => ((k_here; k_dflt (refine By.replace3 (by kba_ints) (by kba_ints2) (by kba_ints2) (by decide) (by omega) (by decide) ?_); intro _ _ _ _ _)))
  (k_with "call ref" => ((k_here; (with_reducible show wpAny _ _ (PySem.call (Value.ref 220) [Value.ref _, Value.int _ _]) _ _ _); k_dflt (refine' Call.use (by k_asm) (by k_asm) (by k_asm) (by k_asm) (by k_asm) (by first | assumption | exact rfl) (by ktr_room) (by ktr_units) (draw_upd (U := (by k_updF)) (hc := (by k_ne)) (hm := (by k_mem)) (hi := (by assumption)) (hlen := (by assumption)) (hg0 := (by omega)) (hg := (by omega)) (hst0 := (by omega)) (hst := (by omega)) (hpl0 := (by omega)) (hpl := (by omega)) (hl := (by omega)) (hl' := (by omega))) ?_; intro _ _ _ _ _ _ _ _ _ _ _ _ hP'; obtain ⟨_, _, _, _, _, _⟩ := hP'; (try dsimp only); (try k_sweep)))))
  (k_with "call ref" => ((k_here; (with_reducible show wpAny _ _ (PySem.call (Value.ref 226) [Value.ref _, Value.int _ _]) _ _ _); k_dflt (refine' Call.use (by k_asm) (by k_asm) (by k_asm) (by k_asm) (by k_asm) (by first | assumption | exact rfl) (by ktr_room) (by ktr_units) (octets_u (U := (by k_updF)) (hc := (by k_ne)) (hm := (by k_mem)) (hi := (by assumption)) (hlen := (by assumption)) (hg0 := (by first | with_reducible assumption | omega)) (hg := (by first | with_reducible assumption | omega)) (hst0 := (by first | with_reducible assumption | omega)) (hst := (by first | with_reducible assumption | omega)) (hpl0 := (by first | with_reducible assumption | omega)) (hpl := (by first | with_reducible assumption | omega)) (hl := (by first | with_reducible assumption | omega)) (hl' := (by first | with_reducible assumption | omega))) ?_; intro wB wK _ _ _ _ _ _ _ _ _ _ _ _ hP'; obtain ⟨hb', hkl', hkm', _, _, _, _, _, _⟩ := hP'; (have hkl2' := hkl'); (have wH := hb'); (have wM := hkm'); (try dsimp only); (try k_sweep)))))
  (k_with "call ref" => ((k_here; (with_reducible show wpAny _ _ (PySem.call (Value.ref 83) _) _ _ _); k_dflt (refine' Call.use (by k_asm) (by k_asm) (by k_asm) (by k_asm) (by k_asm) (by first | assumption | exact rfl) (by ktr_room) (by ktr_units) (is_done_u (hx1 := (by k_mem)) (hd1 := (by k_mem)) (hb := (by assumption)) (hi := (by first | with_reducible assumption | omega)) (he := (by first | with_reducible assumption | omega)) (he2 := (by first | with_reducible assumption | omega))) ?_; intro _ _ _ _ _; (try dsimp only); (try k_sweep)))))
  (k_with "call ref" => ((k_here; (with_reducible show wpAny _ _ (PySem.call (Value.ref 91) [Value.ref _, Value.int _ _]) _ _ _); k_dflt (refine' Call.use (by k_asm) (by k_asm) (by k_asm) (by k_asm) (by k_asm) (by first | assumption | exact rfl) (by ktr_room) (by ktr_units) (peek_u (hx1 := (by k_mem)) (hd1 := (by k_mem)) (hb := (by assumption)) (hi := (by first | with_reducible assumption | omega)) (he := (by first | with_reducible assumption | omega)) (he2 := (by first | with_reducible assumption | omega)) (hl := (by first | with_reducible assumption | omega)) (hk0 := (by first | with_reducible assumption | omega)) (hk1 := (by first | with_reducible assumption | omega))) ?_; intro vR _ _ _ _ _ hvR; (try dsimp only); (try k_sweep)))))
  (k_with "call ref" => ((k_here; (with_reducible show wpAny _ _ (PySem.call (Value.ref 98) _) _ _ _); k_dflt (refine' Call.use (by k_asm) (by k_asm) (by k_asm) (by k_asm) (by k_asm) (by first | assumption | exact rfl) (by ktr_room) (by ktr_units) (take_u (hx1 := (by k_mem)) (U := (by k_updF)) (hx := (by k_ne)) (hb := (by assumption)) (hi := (by first | with_reducible assumption | omega)) (he := (by first | with_reducible assumption | omega)) (he2 := (by first | with_reducible assumption | omega)) (hl := (by first | with_reducible assumption | omega))) ?_; intro vR _ iR _ _ _ _ _ hP'; (have hvR := And.left hP'); (have hiR := And.right hP'); (try dsimp only); (try k_sweep)))))
  (k_with "call ref" => ((k_here; (with_reducible show wpAny _ _ (PySem.call (Value.ref 105) [Value.ref _, Value.bytes _ _]) _ _ _); k_dflt (refine' Call.use (by k_asm) (by k_asm) (by k_asm) (by k_asm) (by k_asm) (by first | assumption | exact rfl) (by ktr_room) (by ktr_units) (starts_u (hx1 := (by k_mem)) (hd1 := (by k_mem)) (hb := (by assumption)) (hi := (by first | with_reducible assumption | omega)) (he := (by first | with_reducible assumption | omega)) (he2 := (by first | with_reducible assumption | omega)) (hl := (by first | with_reducible assumption | omega)) (hwd := (by kba_ints2)) (hws := (by first | with_reducible assumption | omega))) ?_; intro vR _ _ _ _ hvR; (try dsimp only); (try k_sweep)))))
  (k_with "call ref" => ((k_here; (with_reducible show wpAny _ _ (PySem.call (Value.ref 112) [Value.ref _, Value.bytes _ _]) _ _ _); k_dflt (refine' Call.use (by k_asm) (by k_asm) (by k_asm) (by k_asm) (by k_asm) (by first | assumption | exact rfl) (by ktr_room) (by ktr_units) (skip_u (hx1 := (by k_mem)) (U := (by k_updF)) (hx := (by k_ne)) (hb := (by assumption)) (hi := (by first | with_reducible assumption | omega)) (he := (by first | with_reducible assumption | omega)) (he2 := (by first | with_reducible assumption | omega)) (hl := (by first | with_reducible assumption | omega)) (hwd := (by kba_ints2)) (hws := (by first | with_reducible assumption | omega))) ?_; intro vS iR _ _ _ _ _ hP'; (have hvS := And.left hP'); (have hiR := And.right hP'); (try dsimp only); (try k_sweep)))))
  (k_with "call ref" => ((k_here; (with_reducible show wpAny _ _ (PySem.call (Value.ref 119) [Value.ref _, Value.bytes _ _]) _ _ _); k_dflt (refine' Call.use (by k_asm) (by k_asm) (by k_asm) (by k_asm) (by k_asm) (by first | assumption | exact rfl) (by ktr_room) (by ktr_units) (tw_u (hx1 := (by k_mem)) (U := (by k_updF)) (hx := (by k_ne)) (hb := (by assumption)) (hi := (by first | with_reducible assumption | omega)) (he := (by first | with_reducible assumption | omega)) (he2 := (by first | with_reducible assumption | omega)) (hl := (by first | with_reducible assumption | omega)) (hwd := (by kba_ints2)) (hws := (by first | with_reducible assumption | omega))) ?_; intro cR lsR _ iR _ _ _ _ _ hP'; (have hcR := And.left hP'); (have hlsR := And.left (And.right hP')); (have hiR := And.right (And.right hP')); (try dsimp only); (try k_sweep)))))
  (k_with "call ref" => ((k_here; (with_reducible show wpAny _ _ (PySem.call (Value.ref 126) [Value.ref _, Value.bytes _ _]) _ _ _); k_dflt (refine' Call.use (by k_asm) (by k_asm) (by k_asm) (by k_asm) (by k_asm) (by first | assumption | exact rfl) (by ktr_room) (by ktr_units) (tu_u (hx1 := (by k_mem)) (U := (by k_updF)) (hx := (by k_ne)) (hb := (by assumption)) (hi := (by first | with_reducible assumption | omega)) (he := (by first | with_reducible assumption | omega)) (he2 := (by first | with_reducible assumption | omega)) (hl := (by first | with_reducible assumption | omega)) (hwd := (by kba_ints2)) (hws := (by first | with_reducible assumption | omega))) ?_; intro cR lsR _ iR _ _ _ _ _ hP'; (have hcR := And.left hP'); (have hlsR := And.left (And.right hP')); (have hiR := And.right (And.right hP')); (try dsimp only); (try k_sweep)))))
  (k_with "call ref" => ((k_here; (with_reducible show wpAny _ _ (PySem.call (Value.ref 133) _) _ _ _); k_dflt (refine' Call.use (by k_asm) (by k_asm) (by k_asm) (by k_asm) (by k_asm) (by first | assumption | exact rfl) (by ktr_room) (by ktr_units) (num_u (hx1 := (by k_mem)) (U := (by k_updF)) (hx := (by k_ne)) (hb := (by assumption)) (hi := (by first | with_reducible assumption | omega)) (he := (by first | with_reducible assumption | omega)) (he2 := (by first | with_reducible assumption | omega)) (hl := (by first | with_reducible assumption | omega))) ?_; refine ⟨fun t' iR ti' h' tk' F' N' hnR => ?_, fun iR ti' h' tk' F' N' hnR => ?_⟩ <;> (try dsimp only) <;> (try k_sweep); (try dsimp only); (try k_sweep)))))
  (k_with "call ref" => ((k_here; (with_reducible show wpAny _ _ (PySem.call (Value.ref 140) [Value.ref _, Value.bytes _ _]) _ _ _); k_dflt (refine' Call.use (by k_asm) (by k_asm) (by k_asm) (by k_asm) (by k_asm) (by first | assumption | exact rfl) (by ktr_room) (by ktr_units) (hfind_u (hx1 := (by k_mem)) (hd1 := (by k_mem)) (hb := (by assumption)) (hi := (by first | with_reducible assumption | omega)) (he := (by first | with_reducible assumption | omega)) (he2 := (by first | with_reducible assumption | omega)) (hl := (by first | with_reducible assumption | omega)) (hwd := (by kba_ints2))) ?_; intro vR _ _ _ _ _ hvR; (try dsimp only); (try k_sweep)))))
  trivial
/-- what a deed hands back: whether it was right, and the place -/
abbrev tupO (b : Bool) (a : Int) (t : Tok) : Obj := { cls := .type "tuple", data := .seq #[.bool b, .int a t] }
theorem w_deed_1 : True := by
  (k_with "halt" => ((with_reducible show wpAny _ _ (PySem.call (Value.ref 133) _) _ _ _)))
  trivial
theorem tw_mem {p : Int → Bool} : ∀ {l : List Int} {k : Int}, k ∈ l.takeWhile p → p k = true
  | [], _, h => nomatch h
  | a :: l, k, h => by
    by_cases hp : p a = true
    · rw [List.takeWhile_cons_of_pos hp] at h
      rcases List.mem_cons.mp h with rfl | h
      · exact hp
      · exact tw_mem h
    · rw [List.takeWhile_cons_of_neg hp] at h; cases h
section
variable {w : World} {mean : ExcName → Option Value} {mg mb : Str → Option Value} {news rest : List (Addr × Obj)} {b pb : Array UInt8} {ks ps : List Int} {i i0 e at0 : Int} {x dx pen c : Addr} {tb tp ti te ta u1 u2 u3 : Tok} {g st pl : Int} {t1 t2 t3 : Tok} {n nc : Nat} {vs : List Value} {ns : List Int}
theorem deed_h (hxd : @Ne Nat x dx) (hpd : @Ne Nat pen dx) (hcd : @Ne Nat c dx) (hxp : @Ne Nat x pen) (hcp : @Ne Nat c pen) (hn1 : ∀ p ∈ news, p.1 ≠ dx) (hn2 : ∀ p ∈ news, p.1 ≠ pen) 
    (hi : IntsAre vs ns) (hlen : ns.length ≤ 48) (hg0 : 0 ≤ g) (hg : g < 10 ^ 240) (hst0 : 0 ≤ st) (hst : st < 2147483647) (hpl0 : 0 ≤ pl) (hpl : pl < 800000)
    (hb : KBw.bInts b = ks) (hl : ks.length ≤ 14) (hi0 : 0 ≤ i0) (he : i0 ≤ e) (he2 : e ≤ ks.length) (hpb : KBw.bInts pb = ps) (hps : ps = sg ks i0 e) (ha0 : 0 ≤ at0) (ha1 : at0 ≤ ps.length) (hia : i = i0 + at0) :
    Call w mean mg mb 233 [.ref pen, .ref x, .bytes pb tp, .int at0 ta] ((pen, penO c g st pl t1 t2 t3 n) :: (c, listOf vs.toArray nc) :: (dx, curO w b i e tb ti te u1 u2 u3) :: (x, instObj 143 dx) :: news) 8 100
      (fun R => ∀ D bb at1 ta1 i1 ti1 g1 st1 pl1 t1 t2 t3 n1, R (.ref D) ((D, tupO bb at1 ta1) :: (pen, penO c g1 st1 pl1 t1 t2 t3 n1) :: (c, listOf vs.toArray nc) :: (dx, curO w b i1 e tb ti1 te u1 u2 u3) :: (x, instObj 143 dx) :: news)
        (bb = true ∧ (0 ≤ at1 ∧ at1 ≤ ps.length ∧ i1 = i0 + at1) ∧ (0 ≤ g1 ∧ g1 < 10 ^ 240 ∧ 0 ≤ st1 ∧ st1 < 2147483647 ∧ pl ≤ pl1 ∧ pl1 ≤ pl + 40) ∧ (pen < D ∧ c < D ∧ dx < D ∧ x < D ∧ AllLt D news))) := by
  intro dp u gd cn cs a ccd cl outer A₀ base h₀ L m s Q E B F X N T hkk hd hu hret
  have hpl2 := sg_len hi0 he he2
  rw [← hps] at hpl2
  have hsg := sg_part hi0 he he2 hps ha0 ha1
  rw [← hia] at hsg
  have hpl14 : ps.length ≤ 14 := by omega
  have hi9 : 0 ≤ i := by omega
  have hi8 : i ≤ e := by omega
  walk_at "go"
  · refine hret _ _ _ _ _ _ _ _ _ _ _ _ _ _ _ (by k_asm) (by k_asm) ⟨?_, ⟨by omega, by omega, by omega⟩, ⟨by omega, by omega, by omega, by omega, by omega, by omega⟩, by assumption⟩
    rw [hvR, hsg, sg_get _ ha0 (Int.le_refl _) (by omega), Int.toNat_of_nonneg (by assumption)]
    exact beq_self_eq_true _
  · refine hret _ _ _ _ _ _ _ _ _ _ _ _ _ _ _ (by k_asm) (by k_asm) ⟨?_, ⟨by omega, by omega, by omega⟩, ⟨by omega, by omega, by omega, by omega, by omega, by omega⟩, by assumption⟩
    rw [hvR, hsg, sg_none _ ha0 (by omega)]
    exact beq_self_eq_true _
  · refine hret _ _ _ _ _ _ _ _ _ _ _ _ _ _ _ (by k_asm) (by k_asm) ⟨?_, ⟨by omega, by omega, by omega⟩, ⟨by omega, by omega, by omega, by omega, by omega, by omega⟩, by assumption⟩
    rw [hvR, hsg, sg_get _ ha0 (Int.le_refl _) (by omega), show at0 + ((0 : Nat) : Int) = at0 by omega]
    exact beq_self_eq_true _
  · refine hret _ _ _ _ _ _ _ _ _ _ _ _ _ _ _ (by k_asm) (by k_asm) ⟨?_, ⟨by omega, by omega, by omega⟩, ⟨by omega, by omega, by omega, by omega, by omega, by omega⟩, by assumption⟩
    rw [hvR, hsg, sg_none _ ha0 (by omega)]
    exact beq_self_eq_true _
  · rename KBw.bInts (KBy.picked _ _ _) = _ => hc
    rename (_ == _) = true => h1
    rw [bytes_eqb, hc, wH, cut_eq ha0 (by omega), sg_take ha0, ← hsg] at h1
    have h1 := of_decide_eq_true h1
    have h2 := congrArg List.length h1
    rw [List.length_take, hsg] at h2
    have hsl := sg_len (ks := ps) ha0 ha1 (Int.le_refl _)
    rw [if_pos h1] at hiR
    refine hret _ _ _ _ _ _ _ _ _ _ _ _ _ _ _ (by k_asm) (by k_asm) ⟨?_, ⟨by omega, by omega, by omega⟩, ⟨by omega, by omega, by omega, by omega, by omega, by omega⟩, by assumption⟩
    rw [hvS, bytes_eqb, hc, wH, cut_eq ha0 (by omega), sg_take ha0, ← hsg]
    exact beq_self_eq_true _
  · rename KBw.bInts (KBy.picked _ _ _) = _ => hc
    rename (_ == _) = false => h1
    rw [bytes_eqb, hc, wH, cut_eq ha0 (by omega), sg_take ha0, ← hsg] at h1
    have h1 := of_decide_eq_false h1
    rw [if_neg h1] at hiR
    refine hret _ _ _ _ _ _ _ _ _ _ _ _ _ _ _ (by k_asm) (by k_asm) ⟨?_, ⟨by omega, by omega, by omega⟩, ⟨by omega, by omega, by omega, by omega, by omega, by omega⟩, by assumption⟩
    rw [hvS, bytes_eqb, hc, wH, cut_eq ha0 (by omega), sg_take ha0, ← hsg]
    exact beq_self_eq_true _
  · exfalso
    rename KBw.bInts (KBy.picked _ _ _) = _ => hc
    rename (_ == _) = false => h1
    rw [hvR, bytes_eqb, hc, wH, cut_eq ha0 (by omega), sg_take ha0, ← hsg, beq_self_eq_true] at h1
    cases h1
  · exfalso
    rename KBw.bInts (KBy.picked _ _ _) = _ => hc
    rename (_ == _) = false => h0
    revert h0
    rename (_ == _) = false => h1
    rw [hvR, bytes_eqb, hc, wH, cut_eq ha0 (by omega), sg_take ha0, ← hsg, beq_self_eq_true] at h1
    cases h1
  · rename _ = (3 : Int) => hd
    subst hd
    rename Fr _ _ _ _ => F1
    rename News _ _ _ _ => N1
    refine While_intC (Str.ofString "end") (fun n v => at0 ≤ v ∧ v ≤ ps.length ∧ n = (ps.length - v).toNat ∧ Gone (fun k => decide (k ∈ wK)) ps at0 v ps.length) F1 N1 ⟨Int.le_refl _, ha1, rfl, Gone.start _ _ _ _⟩ ?_
    rintro n v t h₁ tk₁ F2 N2 ⟨g1, g2, g3, g4⟩
    walk_at "go"
    · have hp : (fun k => decide (k ∈ wK)) (ps.getD v.toNat 0) = true := by
        rename (_ == _) = true => q
        simpa using q
      exact step2 (fr_twice (by k_asm)) (by k_asm) (show (ps.length - (v + 1)).toNat < n by omega) ⟨_, _, rfl, rfl, by omega, by omega, rfl, g4.step ha0 g1 (by omega) (Int.le_refl _) hp⟩
    · have hp : (fun k => decide (k ∈ wK)) (ps.getD v.toNat 0) = false := by
        rename (_ == _) = false => q
        simpa using q
      have hr := g4.stop ha0 g1 (by omega) (Int.le_refl _) hp
      have hL : lsR = sg ps at0 v := by rw [hlsR, hsg, hr]
      have hLn := sg_len (ks := ps) ha0 g1 g2
      rw [← hL] at hLn
      rename KBw.bInts (KBy.picked _ _ _) = _ => hc
      refine hret _ _ _ _ _ _ _ _ _ _ _ _ _ _ _ (by k_asm) (by k_asm) ⟨?_, ⟨by omega, by omega, by omega⟩, ⟨by omega, by omega, by omega, by omega, by omega, by omega⟩, by assumption⟩
      rw [bytes_eqb, hcR, hc, cut_eq ha0 (by omega), hL]
      exact decide_eq_true rfl
    · have hr := g4.done g2 (by omega)
      have hL : lsR = sg ps at0 v := by rw [hlsR, hsg, hr]
      have hLn := sg_len (ks := ps) ha0 g1 g2
      rw [← hL] at hLn
      rename KBw.bInts (KBy.picked _ _ _) = _ => hc
      refine hret _ _ _ _ _ _ _ _ _ _ _ _ _ _ _ (by k_asm) (by k_asm) ⟨?_, ⟨by omega, by omega, by omega⟩, ⟨by omega, by omega, by omega, by omega, by omega, by omega⟩, by assumption⟩
      rw [bytes_eqb, hcR, hc, cut_eq ha0 (by omega), hL]
      exact decide_eq_true rfl
  · rename _ = (4 : Int) => hd
    subst hd
    rename Fr _ _ _ _ => F1
    rename News _ _ _ _ => N1
    refine While_intC (Str.ofString "end") (fun n v => at0 ≤ v ∧ v ≤ ps.length ∧ n = (ps.length - v).toNat ∧ Gone (fun k => !decide (k ∈ wK)) ps at0 v ps.length) F1 N1 ⟨Int.le_refl _, ha1, rfl, Gone.start _ _ _ _⟩ ?_
    rintro n v t h₁ tk₁ F2 N2 ⟨g1, g2, g3, g4⟩
    walk_at "go"
    · have hp : (fun k => !decide (k ∈ wK)) (ps.getD v.toNat 0) = true := by
        rename (_ == _) = true => q
        simpa using q
      exact step2 (fr_twice (by k_asm)) (by k_asm) (show (ps.length - (v + 1)).toNat < n by omega) ⟨_, _, rfl, rfl, by omega, by omega, rfl, g4.step ha0 g1 (by omega) (Int.le_refl _) hp⟩
    · have hp : (fun k => !decide (k ∈ wK)) (ps.getD v.toNat 0) = false := by
        rename (_ == _) = false => q
        simpa using q
      have hr := g4.stop ha0 g1 (by omega) (Int.le_refl _) hp
      have hL : lsR = sg ps at0 v := by rw [hlsR, hsg, hr]
      have hLn := sg_len (ks := ps) ha0 g1 g2
      rw [← hL] at hLn
      rename KBw.bInts (KBy.picked _ _ _) = _ => hc
      refine hret _ _ _ _ _ _ _ _ _ _ _ _ _ _ _ (by k_asm) (by k_asm) ⟨?_, ⟨by omega, by omega, by omega⟩, ⟨by omega, by omega, by omega, by omega, by omega, by omega⟩, by assumption⟩
      rw [bytes_eqb, hcR, hc, cut_eq ha0 (by omega), hL]
      exact decide_eq_true rfl
    · have hr := g4.done g2 (by omega)
      have hL : lsR = sg ps at0 v := by rw [hlsR, hsg, hr]
      have hLn := sg_len (ks := ps) ha0 g1 g2
      rw [← hL] at hLn
      rename KBw.bInts (KBy.picked _ _ _) = _ => hc
      refine hret _ _ _ _ _ _ _ _ _ _ _ _ _ _ _ (by k_asm) (by k_asm) ⟨?_, ⟨by omega, by omega, by omega⟩, ⟨by omega, by omega, by omega, by omega, by omega, by omega⟩, by assumption⟩
      rw [bytes_eqb, hcR, hc, cut_eq ha0 (by omega), hL]
      exact decide_eq_true rfl
  · rename _ = (5 : Int) => hd
    subst hd
    rename Fr _ _ _ _ => F1
    rename News _ _ _ _ => N1
    refine While_intC (Str.ofString "end") (fun n v => at0 ≤ v ∧ v ≤ ps.length ∧ n = (ps.length - v).toNat ∧ Gone isd ps at0 v ps.length) F1 N1 ⟨Int.le_refl _, ha1, rfl, Gone.start _ _ _ _⟩ ?_
    rintro n v t h₁ tk₁ F2 N2 ⟨g1, g2, g3, g4⟩
    walk_at "go"
    · exact step2 (fr_twice (by k_asm)) (by k_asm) (show (ps.length - (v + 1)).toNat < n by omega) ⟨_, _, rfl, rfl, by omega, by omega, rfl, g4.step ha0 g1 (by omega) (Int.le_refl _) (by simp only [isd, Bool.and_eq_true, decide_eq_true_eq]; exact ⟨by assumption, by assumption⟩)⟩
    · have hr := g4.stop ha0 g1 (by omega) (Int.le_refl _) (by simp only [isd, Bool.and_eq_false_iff, decide_eq_false_iff_not]; exact .inr (by assumption))
      rw [← hsg] at hr
      have hLn := sg_len (ks := ps) ha0 g1 g2
      walk_at "call ref"
      · obtain ⟨n1, n2, n3⟩ := hnR
        rw [hr] at n1 n2 n3 ⊢
        have hlt : at0 < v := by
          have : (sg ps at0 v).length ≠ 0 := fun e => n1 (List.length_eq_zero_iff.mp e)
          omega
        walk_at "go"
        rename KBw.bInts (KBy.picked _ _ _) = _ => hc
        rw [cut_eq ha0 (by omega)] at hc
        refine By.int_bytes hc (fun k hk => tw_mem (by rw [← hr] at hk; exact hk)) n1 (by omega) ?_
        intro t9 k9
        walk_at "go"
        refine hret _ _ _ _ _ _ _ _ _ _ _ _ _ _ _ (by k_asm) (by k_asm) ⟨?_, ⟨by omega, by omega, by omega⟩, ⟨by omega, by omega, by omega, by omega, by omega, by omega⟩, by assumption⟩
        exact beq_self_eq_true _
      · obtain ⟨n1, n2⟩ := hnR
        rw [hr] at n1
        have hge : ¬ at0 < v := by
          rcases n1 with h | h
          · rw [h] at hLn; simp only [List.length_nil] at hLn; omega
          · omega
        walk_at "go"
        exact hret _ _ _ _ _ _ _ _ _ _ _ _ _ _ _ (by k_asm) (by k_asm) ⟨rfl, ⟨by omega, by omega, by omega⟩, ⟨by omega, by omega, by omega, by omega, by omega, by omega⟩, by assumption⟩
    · have hr := g4.stop ha0 g1 (by omega) (Int.le_refl _) (by simp only [isd, Bool.and_eq_false_iff, decide_eq_false_iff_not]; exact .inl (by assumption))
      rw [← hsg] at hr
      have hLn := sg_len (ks := ps) ha0 g1 g2
      walk_at "call ref"
      · obtain ⟨n1, n2, n3⟩ := hnR
        rw [hr] at n1 n2 n3 ⊢
        have hlt : at0 < v := by
          have : (sg ps at0 v).length ≠ 0 := fun e => n1 (List.length_eq_zero_iff.mp e)
          omega
        walk_at "go"
        rename KBw.bInts (KBy.picked _ _ _) = _ => hc
        rw [cut_eq ha0 (by omega)] at hc
        refine By.int_bytes hc (fun k hk => tw_mem (by rw [← hr] at hk; exact hk)) n1 (by omega) ?_
        intro t9 k9
        walk_at "go"
        refine hret _ _ _ _ _ _ _ _ _ _ _ _ _ _ _ (by k_asm) (by k_asm) ⟨?_, ⟨by omega, by omega, by omega⟩, ⟨by omega, by omega, by omega, by omega, by omega, by omega⟩, by assumption⟩
        exact beq_self_eq_true _
      · obtain ⟨n1, n2⟩ := hnR
        rw [hr] at n1
        have hge : ¬ at0 < v := by
          rcases n1 with h | h
          · rw [h] at hLn; simp only [List.length_nil] at hLn; omega
          · omega
        walk_at "go"
        exact hret _ _ _ _ _ _ _ _ _ _ _ _ _ _ _ (by k_asm) (by k_asm) ⟨rfl, ⟨by omega, by omega, by omega⟩, ⟨by omega, by omega, by omega, by omega, by omega, by omega⟩, by assumption⟩
    · have hr := g4.done g2 (by omega)
      rw [← hsg] at hr
      have hLn := sg_len (ks := ps) ha0 g1 g2
      walk_at "call ref"
      · obtain ⟨n1, n2, n3⟩ := hnR
        rw [hr] at n1 n2 n3 ⊢
        have hlt : at0 < v := by
          have : (sg ps at0 v).length ≠ 0 := fun e => n1 (List.length_eq_zero_iff.mp e)
          omega
        walk_at "go"
        rename KBw.bInts (KBy.picked _ _ _) = _ => hc
        rw [cut_eq ha0 (by omega)] at hc
        refine By.int_bytes hc (fun k hk => tw_mem (by rw [← hr] at hk; exact hk)) n1 (by omega) ?_
        intro t9 k9
        walk_at "go"
        refine hret _ _ _ _ _ _ _ _ _ _ _ _ _ _ _ (by k_asm) (by k_asm) ⟨?_, ⟨by omega, by omega, by omega⟩, ⟨by omega, by omega, by omega, by omega, by omega, by omega⟩, by assumption⟩
        exact beq_self_eq_true _
      · obtain ⟨n1, n2⟩ := hnR
        rw [hr] at n1
        have hge : ¬ at0 < v := by
          rcases n1 with h | h
          · rw [h] at hLn; simp only [List.length_nil] at hLn; omega
          · omega
        walk_at "go"
        exact hret _ _ _ _ _ _ _ _ _ _ _ _ _ _ _ (by k_asm) (by k_asm) ⟨rfl, ⟨by omega, by omega, by omega⟩, ⟨by omega, by omega, by omega, by omega, by omega, by omega⟩, by assumption⟩
  · refine hret _ _ _ _ _ _ _ _ _ _ _ _ _ _ _ (by k_asm) (by k_asm) ⟨?_, ⟨by omega, by omega, by omega⟩, ⟨by omega, by omega, by omega, by omega, by omega, by omega⟩, by assumption⟩
    rw [hsg, ← sg_nil ha0 ha1 (Int.le_refl _)]
    exact beq_self_eq_true _
  · rename KBw.bInts (KBy.picked _ _ _) = _ => hc
    have hcl : List.take (ps.length - clipAt ps.length at0) (List.drop (clipAt ps.length at0) ps) = sg ps at0 ps.length := by
      rw [clip_in ha0, sg_end, Nat.min_eq_left (by omega)]
      exact List.take_of_length_le (by rw [List.length_drop]; omega)
    rename occV _ _ _ < 0 => hf
    rw [hcl, ← hsg] at hf
    refine hret _ _ _ _ _ _ _ _ _ _ _ _ _ _ _ (by k_asm) (by k_asm) ⟨?_, ⟨by omega, by omega, by omega⟩, ⟨by omega, by omega, by omega, by omega, by omega, by omega⟩, by assumption⟩
    rw [hvR]
    unfold occV at hf ⊢
    revert hf
    cases occ (sg ks i e) wK with
    | none => intro hf; rfl
    | some j => intro hf; exfalso; simp only at hf; omega
  · rename KBw.bInts (KBy.picked _ _ _) = _ => hc
    have hcl : List.take (ps.length - clipAt ps.length at0) (List.drop (clipAt ps.length at0) ps) = sg ps at0 ps.length := by
      rw [clip_in ha0, sg_end, Nat.min_eq_left (by omega)]
      exact List.take_of_length_le (by rw [List.length_drop]; omega)
    rename ¬ occV _ _ _ < 0 => hf
    rw [hcl, ← hsg] at hf
    refine hret _ _ _ _ _ _ _ _ _ _ _ _ _ _ _ (by k_asm) (by k_asm) ⟨?_, ⟨by omega, by omega, by omega⟩, ⟨by omega, by omega, by omega, by omega, by omega, by omega⟩, by assumption⟩
    rw [hvR, hcl, ← hsg]
    unfold occV at hf ⊢
    revert hf
    cases occ (sg ks i e) wK with
    | none => intro hf; exfalso; simp only at hf; omega
    | some j => intro hf; simp only; exact beq_iff_eq.mpr (by omega)
end
end
section
/-- as canonical, along the list; p: the sign ahead was CR -/
def cR : Bool → List Int → List Int
  | _, [] => []
  | p, x :: r => if x = 13 then 13 :: 10 :: cR true r else if x = 10 then (if p then cR false r else 13 :: 10 :: cR false r) else x :: cR false r
theorem cR_cr {p : Bool} {r : List Int} : cR p (13 :: r) = 13 :: 10 :: cR true r := by rw [cR, if_pos rfl]
theorem cR_in {r : List Int} : cR true (10 :: r) = cR false r := by rw [cR, if_neg (by decide), if_pos rfl, if_pos rfl]
theorem cR_lf {r : List Int} : cR false (10 :: r) = 13 :: 10 :: cR false r := by rw [cR, if_neg (by decide), if_pos rfl]; rfl
theorem cR_one {p : Bool} {x : Int} {r : List Int} (h1 : x ≠ 13) (h2 : x ≠ 10) : cR p (x :: r) = x :: cR false r := by rw [cR, if_neg h1, if_neg h2]
theorem cR_any {r : List Int} (h : ∀ q, r ≠ 10 :: q) : cR true r = cR false r := by
  cases r with
  | nil => rfl
  | cons x r =>
    by_cases h1 : x = 13
    · subst h1; rw [cR_cr, cR_cr]
    · by_cases h2 : x = 10
      · subst h2; exact absurd rfl (h r)
      · rw [cR_one h1 h2, cR_one h1 h2]
theorem cR_twice : ∀ (l : List Int) (p : Bool), cR false (cR p l) = cR p l
  | [], _ => rfl
  | x :: r, p => by
    by_cases h1 : x = 13
    · subst h1; rw [cR_cr, cR_cr, cR_in, cR_twice r]
    · by_cases h2 : x = 10
      · subst h2
        cases p
        · rw [cR_lf, cR_cr, cR_in, cR_twice r]
        · rw [cR_in, cR_twice r]
      · rw [cR_one h1 h2, cR_one h1 h2, cR_twice r]
theorem cacc_cR (ks : List Int) : ∀ n, n ≤ ks.length → cacc ks n ++ cR (decide (cprev ks n = 13)) (ks.drop n) = cR false ks
  | 0, _ => by
    have e : decide (cprev ks 0 = 13) = false := decide_eq_false (by unfold cprev; rw [if_pos rfl]; decide)
    rw [e]; rfl
  | n + 1, h => by
    rw [← cacc_cR ks n (by omega), cacc_succ, List.append_assoc]
    congr 1
    have hd : ks.drop n = ks.getD n 0 :: ks.drop (n + 1) := by
      rw [List.drop_eq_getElem_cons (by omega), List.getD_eq_getElem?_getD, List.getElem?_eq_getElem (by omega)]; rfl
    have hp : cprev ks (n + 1) = ks.getD n 0 := by unfold cprev; rw [if_neg (by omega), Nat.add_sub_cancel]
    rw [hd, hp]
    by_cases h1 : ks.getD n 0 = 13
    · rw [h1, cR_cr, cstep_cr rfl]; rfl
    · rw [decide_eq_false h1]
      by_cases h2 : ks.getD n 0 = 10
      · by_cases h3 : cprev ks n = 13
        · rw [cstep_in h2 h3, h2, h3]
          show _ = cR true _
          rw [cR_in]; rfl
        · rw [cstep_lf h2 h3, h2, decide_eq_false h3, cR_lf]; rfl
      · rw [cstep_one h1 h2, cR_one h1 h2]; rfl
theorem cacc_all (ks : List Int) : cacc ks ks.length = cR false ks := by
  have := cacc_cR ks ks.length (Nat.le_refl _)
  rw [List.drop_length] at this
  rw [← this]
  cases decide (cprev ks ks.length = 13) <;> exact (List.append_nil _).symm
theorem rep_one (a : Int) (ws : List Int) : ∀ (n : Nat) (l : List Int), l.length ≤ n → rep [a] ws n l = l.flatMap fun x => if x = a then ws else [x]
  | 0, l, h => by
    obtain rfl : l = [] := List.eq_nil_of_length_eq_zero (by omega)
    rfl
  | n + 1, [], h => by rw [rep_short (n + 1) (by simp)]; rfl
  | n + 1, x :: r, h => by
    rw [List.length_cons] at h
    by_cases hx : x = a
    · subst hx
      rw [rep_hit (by rfl), List.flatMap_cons, if_pos rfl]
      show ws ++ rep [x] ws n r = _
      rw [rep_one x ws n r (by omega)]
    · rw [rep_miss (fun e => hx (by injection e)), List.flatMap_cons, if_neg hx, rep_one a ws n r (by omega)]
      rfl
theorem rep_two : ∀ (n : Nat) (l : List Int), l.length ≤ n → (rep [13, 10] [10] n l).flatMap (fun x => if x = 13 ∨ x = 10 then [13, 10] else [x]) = cR false l
  | 0, l, h => by
    obtain rfl : l = [] := List.eq_nil_of_length_eq_zero (by omega)
    rfl
  | n + 1, [], h => by rw [rep_short (n + 1) (by simp)]; rfl
  | n + 1, x :: r, h => by
    rw [List.length_cons] at h
    by_cases hx : (x :: r).take 2 = [13, 10]
    · rw [rep_hit (old := [13, 10]) hx]
      cases r with
      | nil => simp at hx
      | cons y r =>
        simp only [List.take_succ_cons, List.take_zero, List.cons.injEq, and_true] at hx
        obtain ⟨rfl, rfl⟩ := hx
        rw [List.length_cons] at h
        show ([10] ++ rep [13, 10] [10] n r).flatMap _ = _
        rw [List.flatMap_append, rep_two n r (by omega), cR_cr, cR_in]
        rfl
    · rw [rep_miss (old := [13, 10]) hx, List.flatMap_cons, rep_two n r (by omega)]
      by_cases h1 : x = 13
      · subst h1
        rw [if_pos (.inl rfl), cR_cr, cR_any (fun q hq => hx (by rw [hq]; rfl))]
        rfl
      · by_cases h2 : x = 10
        · subst h2
          rw [if_pos (.inr rfl), cR_lf]
          rfl
        · rw [if_neg (fun z => z.elim h1 h2), cR_one h1 h2]
          rfl
theorem rep_chain (l : List Int) {n1 n2 n3 : Nat} (h1 : l.length ≤ n1) (h2 : (rep [13, 10] [10] n1 l).length ≤ n2) (h3 : (rep [13] [10] n2 (rep [13, 10] [10] n1 l)).length ≤ n3) :
    rep [10] [13, 10] n3 (rep [13] [10] n2 (rep [13, 10] [10] n1 l)) = cacc l l.length := by
  rw [rep_one 10 _ n3 _ h3, rep_one 13 _ n2 _ h2, cacc_all, ← rep_two n1 l h1, List.flatMap_assoc]
  congr 1
  funext x
  by_cases e1 : x = 13
  · subst e1; rfl
  · by_cases e2 : x = 10
    · subst e2; rfl
    · rw [if_neg e1, if_neg (fun z => z.elim e1 e2)]
      show (if x = 10 then _ else _) ++ [] = _
      rw [if_neg e2]; rfl
theorem cacc_twice (l : List Int) : cacc (cacc l l.length) (cacc l l.length).length = cacc l l.length := by
  rw [cacc_all, cacc_all, cR_twice]
end
section
section
variable {prog : Program} {w : World} {A : Around} {E : Value → Shared → Prop} {s : Shared} {env : Env}
theorem cut_go {M : Model} {Γ : Ctx} {P : Shared → Prop} {Q : Flow → Shared → Prop} {E : Value → Shared → Prop} : ∀ (k : Nat) (body : List Stmt) (p : Pos) (s : Shared),
    (∀ s' p', P s' → Sem.wp M Γ (execs (body.drop k) env) (fun f _ s' => Q f s') (fun e _ s' => E e s') p' s') →
    Sem.wp M Γ (execs (body.take k) env) (fun f _ s' => match f with | .next => P s' | f => Q f s') (fun e _ s' => E e s') p s →
    Sem.wp M Γ (execs body env) (fun f _ s' => Q f s') (fun e _ s' => E e s') p s
  | 0, body, p, s, h2, h1 => h2 s p h1
  | k + 1, [], p, s, h2, h1 => h2 s p h1
  | k + 1, st :: rest, p, s, h2, h1 => by
    rw [List.take_succ_cons, execs_cons, Sem.wp_bind'] at h1
    rw [execs_cons, Sem.wp_bind']
    refine Sem.wp_mono M Γ _ (fun f p' s' h => ?_) (fun _ _ _ x => x) p s h1
    cases f with
    | next => exact cut_go k rest p' s' h2 h
    | cont => exact h
    | brk => exact h
    | ret v => exact h
/-- a body is walked in two parts -/
theorem cutS {M : Model} {body : List Stmt} {Q : Flow → Shared → Prop} (k : Nat) (P : Shared → Prop)
    (h1 : wpS M A (execs (body.take k) env) (fun f s' => match f with | .next => P s' | f => Q f s') E s) (h2 : ∀ s', P s' → wpS M A (execs (body.drop k) env) Q E s') : wpS M A (execs body env) Q E s :=
  fun Γ p hΓ a b => cut_go k body p s (fun s' p' hp => h2 s' hp Γ p' hΓ a b) (h1 Γ p hΓ a b)
theorem fr_pull {h₀ h : Heap} {L : Addr} {m : Str → Option Value} (x : Str) (v : Option Value) (hm : m x = v) (F : Fr h₀ L h m) : Fr h₀ L h (fun y => if y = x then v else m y) := by
  have e : m = fun y => if y = x then v else m y := by
    funext y
    by_cases q : y = x
    · rw [if_pos q, q, hm]
    · rw [if_neg q]
  rw [← e]; exact F
end
end
section
theorem w_law_0 : True := by
  k_with_none
  (k_with "enter" => (first
      | cell_enter
      | walk_at "enter S"
      | (refine' code_defC (by k_asm) (by k_asm) (by k_asm) (by k_asm) (by k_asm) (by exact rfl) (by exact rfl) (by first | assumption | exact rfl) (by k_is) (by k_is) (by ktr_room) (by first | exact BindsTo.of_eq rfl | exact binds_K (by k_in) rfl (by k_is) rfl rfl rfl) (by exact rfl) (by decide +kernel) ?_ (by exact rfl) (by exact rfl) (by exact rfl); k_whole; intro _ _ _ _ _ _ _ N' Y' B' _ _ l1; (try k_lt l1); k_cells Y'; (try simp only [List.cons_append, List.nil_append] at N'); (try dsimp only); (try k_lift B'); (try k_fold))))
  (k_with "call ref" => ((k_here; k_dflt (first
      | (refine' call_cls0 (by k_asm) (by k_asm) (by k_asm) (by k_is) (by k_is) ?_; k_whole; intro _ _ _ _ _ l1 l2; (try k_lt l1); (try k_lt2 l2); (try k_sweep))
      | (refine' call_cls (by k_asm) (by k_asm) (by k_asm) (by k_is) (by k_is) (by k_is) ?_; k_whole; intro _ _ _ _ _ l1 l2; (try k_lt l1); (try k_lt2 l2); (try k_sweep); walk_at "enter")
      | (refine wpAny_call ?_; walk_at "enter")))))
  (k_with "halt" => ((with_reducible show LCg.CompSrc _ _ _ _ _ _ _ _ _ _ _ _ _ _)))
  (k_with "halt" => ((with_reducible show wpAny _ _ (exec (Stmt.While _ _ _ _) _) _ _ _)))
  (k_with "halt" => ((with_reducible show wpAny _ _ (pyIter _) (fun it s₂ => LoopAtV _ _ _ _ _ _ _ _ _ it s₂) _ _)))
  (k_with "go" => (repeat' ((fail_if_success (walk_at "halt")); first | (k_unfold; (try dsimp only)) | walk1 | (dsimp only; walk1) | (leave1; walk_say "STEP leave1"; (try dsimp only)) | fail "no step")))
  (k_with "compareOp In int bytes" => ((k_here; (with_reducible show wpAny _ _ (compareOp CmpOp.In (Value.int _ _) (Value.bytes _ _)) _ _ _); k_dflt (refine By.in_bytes (by kba_ints) (by omega) (by omega) ?_))))
  (k_with "compareOp NotIn int bytes" => ((k_here; (with_reducible show wpAny _ _ (compareOp CmpOp.NotIn (Value.int _ _) (Value.bytes _ _)) _ _ _); k_dflt (refine By.notin_bytes (by kba_ints) (by omega) (by omega) ?_))))
  (k_with "getMethod bytes" => ((k_here; (with_reducible refine By.find_method ?_))))
  (k_with "call builtin:bytes.find" => ((k_here; k_dflt (first | refine By.find2 (by kba_ints) (by kba_ints2) ?_ | refine By.find4 (by kba_ints) (by kba_ints2) (by omega) (by omega) (by omega) ?_))))
  (k_with "getMethod bytes" => ((k_here; (with_reducible refine By.replace_method ?_))))
  (k_with "call builtin:bytes.replace" => ((k_here; k_dflt (refine By.replace3 (by kba_ints) (by kba_ints2) (by kba_ints2) (by decide) (by omega) (by decide) ?_); intro _ _ _ _ _)))
  (k_with "halt" => ((with_reducible show wpS _ _ _ _ _ _)))
  (k_with "halt" => ((with_reducible show wpAny _ _ (pyIter _) (fun it s₂ => codeS _ _ _ _ s₂) _ _)))
  (k_with "halt" => ((with_reducible show MethS _ _ _ _ _ _ _ _ _ _ _)))
  (k_with "call canon" => ((refine' canon_s (hb := (by assumption)) (hl := (by omega)) _ _ _ _ _ _ _ _ _ _ _ _ _ _ _ _ _ (by k_asm) (by k_asm) (by k_asm) (by k_asm) (by k_asm) (by first | assumption | exact rfl) (by ktr_room) (by ktr_units) ?_; intro _ _ _ _ _ _ _; (try dsimp only))))
  (k_with "callWith S" => ((refine' callWithS_K (by k_asm) (by k_is) ?_)))
  (k_with "halt" => ((with_reducible show TurnX _ _ _ _ _ _ _ _ _)))
  (k_with "call ref" => ((k_here; (with_reducible show wpAny _ _ (PySem.call (Value.ref 220) [Value.ref _, Value.int _ _]) _ _ _); k_dflt (refine' Call.use (by k_asm) (by k_asm) (by k_asm) (by k_asm) (by k_asm) (by first | assumption | exact rfl) (by ktr_room) (by ktr_units) (draw_upd (U := (by k_updF)) (hc := (by k_ne)) (hm := (by k_mem)) (hi := (by assumption)) (hlen := (by assumption)) (hg0 := (by omega)) (hg := (by omega)) (hst0 := (by omega)) (hst := (by omega)) (hpl0 := (by omega)) (hpl := (by omega)) (hl := (by omega)) (hl' := (by omega))) ?_; intro _ _ _ _ _ _ _ _ _ _ _ _ hP'; obtain ⟨_, _, _, _, _, _⟩ := hP'; (try dsimp only); (try k_sweep)))))
  (k_with "halt" => ((with_reducible show SrcI _ _ _ _ _ _ _ _ _ _ _ _ _ _)))
  (k_with "halt" => ((with_reducible show LCg.CompEnd _ _ _ _ _ _ _ _ _ _ _ _ _ _)))
  (k_with "exec Raise some none" => ((k_here; k_dflt (refine' raise59 (by rfl) ?_))))
  (k_with "halt" => ((with_reducible show Thrown59 _ _ _ _)))
  (k_with "call builtin:len" => ((k_here; (with_reducible show wpAny _ _ (call (Value.builtin "len") [Value.str (strK _) _]) _ _ _); k_dflt (refine len_K (by first | omega | (simp only [List.length_map]; omega)) ?_); intro _ _; (try dsimp only))))
  (k_with "call ref" => ((k_here; (with_reducible show wpAny _ _ (PySem.call (Value.ref 159) _) _ _ _); k_dflt (refine' lower_h (hb := (by assumption)) (hl := (by first | assumption | omega)) _ _ _ _ _ _ _ _ _ _ _ _ _ _ _ _ _ (by k_asm) (by k_asm) (by k_asm) (by k_asm) (by k_asm) (by first | assumption | exact rfl) (by ktr_room) (by ktr_units) ?_; intro _ _ _ _ _ _ _; (try dsimp only); (try k_sweep)))))
  (k_with "call ref" => ((k_here; (with_reducible show wpAny _ _ (PySem.call (Value.ref 164) _) _ _ _); k_dflt (refine' lowtext_h (hk := (by assumption)) (hl := (by first | assumption | omega)) _ _ _ _ _ _ _ _ _ _ _ _ _ _ _ _ _ (by k_asm) (by k_asm) (by k_asm) (by k_asm) (by k_asm) (by first | assumption | exact rfl) (by ktr_room) (by ktr_units) ?_; intro _ _ _ _ _ _; (try dsimp only); (try k_sweep)))))
  (k_with "call ref" => ((k_here; (with_reducible show wpAny _ _ (PySem.call (Value.ref 169) _) _ _ _); k_dflt (refine' uppertext_h (hk := (by assumption)) (hl := (by first | assumption | omega)) _ _ _ _ _ _ _ _ _ _ _ _ _ _ _ _ _ (by k_asm) (by k_asm) (by k_asm) (by k_asm) (by k_asm) (by first | assumption | exact rfl) (by ktr_room) (by ktr_units) ?_; intro _ _ _ _ _ _; (try dsimp only); (try k_sweep)))))
  (k_with "halt" => ((with_reducible show LeaveS0 _ _ _ _ _ _ _ _)))
  (k_with "call ref" => ((k_here; (with_reducible show wpAny _ _ (PySem.call (Value.ref 226) [Value.ref _, Value.int _ _]) _ _ _); k_dflt (refine' Call.use (by k_asm) (by k_asm) (by k_asm) (by k_asm) (by k_asm) (by first | assumption | exact rfl) (by ktr_room) (by ktr_units) (octets_u (U := (by k_updF)) (hc := (by k_ne)) (hm := (by k_mem)) (hi := (by assumption)) (hlen := (by assumption)) (hg0 := (by first | with_reducible assumption | omega)) (hg := (by first | with_reducible assumption | omega)) (hst0 := (by first | with_reducible assumption | omega)) (hst := (by first | with_reducible assumption | omega)) (hpl0 := (by first | with_reducible assumption | omega)) (hpl := (by first | with_reducible assumption | omega)) (hl := (by first | with_reducible assumption | omega)) (hl' := (by first | with_reducible assumption | omega))) ?_; intro wB wK _ _ _ _ _ _ _ _ _ _ _ _ hP'; obtain ⟨hb', hkl', hkm', _, _, _, _, _, _⟩ := hP'; (have hkl2' := hkl'); (have wH := hb'); (have wM := hkm'); (try dsimp only); (try k_sweep)))))
  (k_with "call ref" => ((k_here; (with_reducible show wpAny _ _ (PySem.call (Value.ref 83) _) _ _ _); k_dflt (refine' Call.use (by k_asm) (by k_asm) (by k_asm) (by k_asm) (by k_asm) (by first | assumption | exact rfl) (by ktr_room) (by ktr_units) (is_done_u (hx1 := (by k_mem)) (hd1 := (by k_mem)) (hb := (by assumption)) (hi := (by first | with_reducible assumption | omega)) (he := (by first | with_reducible assumption | omega)) (he2 := (by first | with_reducible assumption | omega))) ?_; intro _ _ _ _ _; (try dsimp only); (try k_sweep)))))
  (k_with "call ref" => ((k_here; (with_reducible show wpAny _ _ (PySem.call (Value.ref 91) [Value.ref _, Value.int _ _]) _ _ _); k_dflt (refine' Call.use (by k_asm) (by k_asm) (by k_asm) (by k_asm) (by k_asm) (by first | assumption | exact rfl) (by ktr_room) (by ktr_units) (peek_u (hx1 := (by k_mem)) (hd1 := (by k_mem)) (hb := (by assumption)) (hi := (by first | with_reducible assumption | omega)) (he := (by first | with_reducible assumption | omega)) (he2 := (by first | with_reducible assumption | omega)) (hl := (by first | with_reducible assumption | omega)) (hk0 := (by first | with_reducible assumption | omega)) (hk1 := (by first | with_reducible assumption | omega))) ?_; intro vR _ _ _ _ _ hvR; (try dsimp only); (try k_sweep)))))
  (k_with "call ref" => ((k_here; (with_reducible show wpAny _ _ (PySem.call (Value.ref 98) _) _ _ _); k_dflt (refine' Call.use (by k_asm) (by k_asm) (by k_asm) (by k_asm) (by k_asm) (by first | assumption | exact rfl) (by ktr_room) (by ktr_units) (take_u (hx1 := (by k_mem)) (U := (by k_updF)) (hx := (by k_ne)) (hb := (by assumption)) (hi := (by first | with_reducible assumption | omega)) (he := (by first | with_reducible assumption | omega)) (he2 := (by first | with_reducible assumption | omega)) (hl := (by first | with_reducible assumption | omega))) ?_; intro vR _ iR _ _ _ _ _ hP'; (have hvR := And.left hP'); (have hiR := And.right hP'); (try dsimp only); (try k_sweep)))))
  (k_with "call ref" => ((k_here; (with_reducible show wpAny _ _ (PySem.call (Value.ref 105) [Value.ref _, Value.bytes _ _]) _ _ _); k_dflt (refine' Call.use (by k_asm) (by k_asm) (by k_asm) (by k_asm) (by k_asm) (by first | assumption | exact rfl) (by ktr_room) (by ktr_units) (starts_u (hx1 := (by k_mem)) (hd1 := (by k_mem)) (hb := (by assumption)) (hi := (by first | with_reducible assumption | omega)) (he := (by first | with_reducible assumption | omega)) (he2 := (by first | with_reducible assumption | omega)) (hl := (by first | with_reducible assumption | omega)) (hwd := (by kba_ints2)) (hws := (by first | with_reducible assumption | omega))) ?_; intro vR _ _ _ _ hvR; (try dsimp only); (try k_sweep)))))
  (k_with "call ref" => ((k_here; (with_reducible show wpAny _ _ (PySem.call (Value.ref 112) [Value.ref _, Value.bytes _ _]) _ _ _); k_dflt (refine' Call.use (by k_asm) (by k_asm) (by k_asm) (by k_asm) (by k_asm) (by first | assumption | exact rfl) (by ktr_room) (by ktr_units) (skip_u (hx1 := (by k_mem)) (U := (by k_updF)) (hx := (by k_ne)) (hb := (by assumption)) (hi := (by first | with_reducible assumption | omega)) (he := (by first | with_reducible assumption | omega)) (he2 := (by first | with_reducible assumption | omega)) (hl := (by first | with_reducible assumption | omega)) (hwd := (by kba_ints2)) (hws := (by first | with_reducible assumption | omega))) ?_; intro vS iR _ _ _ _ _ hP'; (have hvS := And.left hP'); (have hiR := And.right hP'); (try dsimp only); (try k_sweep)))))
  (k_with "call ref" => ((k_here; (with_reducible show wpAny _ _ (PySem.call (Value.ref 119) [Value.ref _, Value.bytes _ _]) _ _ _); k_dflt (refine' Call.use (by k_asm) (by k_asm) (by k_asm) (by k_asm) (by k_asm) (by first | assumption | exact rfl) (by ktr_room) (by ktr_units) (tw_u (hx1 := (by k_mem)) (U := (by k_updF)) (hx := (by k_ne)) (hb := (by assumption)) (hi := (by first | with_reducible assumption | omega)) (he := (by first | with_reducible assumption | omega)) (he2 := (by first | with_reducible assumption | omega)) (hl := (by first | with_reducible assumption | omega)) (hwd := (by kba_ints2)) (hws := (by first | with_reducible assumption | omega))) ?_; intro cR lsR _ iR _ _ _ _ _ hP'; (have hcR := And.left hP'); (have hlsR := And.left (And.right hP')); (have hiR := And.right (And.right hP')); (try dsimp only); (try k_sweep)))))
  (k_with "call ref" => ((k_here; (with_reducible show wpAny _ _ (PySem.call (Value.ref 126) [Value.ref _, Value.bytes _ _]) _ _ _); k_dflt (refine' Call.use (by k_asm) (by k_asm) (by k_asm) (by k_asm) (by k_asm) (by first | assumption | exact rfl) (by ktr_room) (by ktr_units) (tu_u (hx1 := (by k_mem)) (U := (by k_updF)) (hx := (by k_ne)) (hb := (by assumption)) (hi := (by first | with_reducible assumption | omega)) (he := (by first | with_reducible assumption | omega)) (he2 := (by first | with_reducible assumption | omega)) (hl := (by first | with_reducible assumption | omega)) (hwd := (by kba_ints2)) (hws := (by first | with_reducible assumption | omega))) ?_; intro cR lsR _ iR _ _ _ _ _ hP'; (have hcR := And.left hP'); (have hlsR := And.left (And.right hP')); (have hiR := And.right (And.right hP')); (try dsimp only); (try k_sweep)))))
  (k_with "call ref" => ((k_here; (with_reducible show wpAny _ _ (PySem.call (Value.ref 133) _) _ _ _); k_dflt (refine' Call.use (by k_asm) (by k_asm) (by k_asm) (by k_asm) (by k_asm) (by first | assumption | exact rfl) (by ktr_room) (by ktr_units) (num_u (hx1 := (by k_mem)) (U := (by k_updF)) (hx := (by k_ne)) (hb := (by assumption)) (hi := (by first | with_reducible assumption | omega)) (he := (by first | with_reducible assumption | omega)) (he2 := (by first | with_reducible assumption | omega)) (hl := (by first | with_reducible assumption | omega))) ?_; refine ⟨fun t' iR ti' h' tk' F' N' hnR => ?_, fun iR ti' h' tk' F' N' hnR => ?_⟩ <;> (try dsimp only) <;> (try k_sweep); (try dsimp only); (try k_sweep)))))
  (k_with "call ref" => ((k_here; (with_reducible show wpAny _ _ (PySem.call (Value.ref 140) [Value.ref _, Value.bytes _ _]) _ _ _); k_dflt (refine' Call.use (by k_asm) (by k_asm) (by k_asm) (by k_asm) (by k_asm) (by first | assumption | exact rfl) (by ktr_room) (by ktr_units) (hfind_u (hx1 := (by k_mem)) (hd1 := (by k_mem)) (hb := (by assumption)) (hi := (by first | with_reducible assumption | omega)) (he := (by first | with_reducible assumption | omega)) (he2 := (by first | with_reducible assumption | omega)) (hl := (by first | with_reducible assumption | omega)) (hwd := (by kba_ints2))) ?_; intro vR _ _ _ _ _ hvR; (try dsimp only); (try k_sweep)))))
  trivial
theorem news_pen5 {h₀ h : Heap} {L : Addr} {a b c d e : Addr × Obj} (N : News h₀ L h [a, b, c, d, e]) : News h₀ L h [c, d, b, a, e] := by
  intro p hp
  simp only [List.mem_cons, List.not_mem_nil, or_false] at hp
  rcases hp with rfl | rfl | rfl | rfl | rfl
  · exact N _ (.tail _ (.tail _ (.head _)))
  · exact N _ (.tail _ (.tail _ (.tail _ (.head _))))
  · exact N _ (.tail _ (.head _))
  · exact N _ (.head _)
  · exact N _ (.tail _ (.tail _ (.tail _ (.tail _ (.head _)))))
theorem w_law_1 : True := by
  (k_with "call ref" => ((k_here; (with_reducible show wpAny _ _ (PySem.call (Value.ref 213) _) _ _ _); k_dflt (refine' pen_h (by assumption) (by omega) _ _ _ _ _ _ _ _ _ _ _ _ _ _ _ _ _ (by assumption) (by k_asm) (by k_asm) (by k_asm) (by k_asm) (by k_asm) (by first | assumption | exact rfl) (by ktr_room) (by ktr_units) ?_; intro _ _ _ _ _ _ _ _ _ _ _ _ _ _ _ hP'; obtain ⟨_, _, _, _, _, _, l1, l2, l3⟩ := hP'; (have n1 : @Ne Nat _ _ := Nat.ne_of_lt l1); (have n2 : @Ne Nat _ _ := Nat.ne_of_lt l2.1); (have n3 : @Ne Nat _ _ := l3.1); clear l2 l3; (try dsimp only); (try k_sweep)))))
  trivial
/-- the cell of the part -/
abbrev cellIs (oc : Obj) (pb : Array UInt8) (tp : Tok) : Prop := oc.data = Data.cell (some (.bytes pb tp))
/-- what the pen holds -/
structure PenOk (vs : List Value) (ns : List Int) (g st pl P : Int) : Prop where
  hi : IntsAre vs ns
  hlen : ns.length ≤ 48
  g0 : 0 ≤ g
  g1 : g < 10 ^ 240
  s0 : 0 ≤ st
  s1 : st < 2147483647
  p0 : 0 ≤ pl
  p1 : pl ≤ P
/-- the data, and the part of them -/
structure DataOk (b pb : Array UInt8) (ks ps : List Int) (i0 e : Int) : Prop where
  hb : KBw.bInts b = ks
  hl : ks.length ≤ 14
  hm : ∀ k ∈ ks, k ∈ ([97, 90, 48, 57, 13, 10, 32, 200, 122] : List Int)
  h0 : 0 ≤ i0
  he : i0 ≤ e
  he2 : e ≤ ks.length
  hpb : KBw.bInts pb = ps
  hps : ps = sg ks i0 e
/-- ahead of the deeds -/
def LawP1 (w : World) (s₁ s' : Shared) : Prop :=
  ∀ C : Shared → Prop, (∀ (h : Heap) (tk : Nat) (pen c x dx : Addr) (oc : Obj) (b pb : Array UInt8) (ks ps : List Int) (i0 e g st pl : Int) (vs : List Value) (ns : List Int) (nc n : Nat) (tb tp ti te tg ta t1 t2 t3 u1 u2 u3 td tc : Tok) (m0 : Str → Option Value),
    Fr s₁.heap s₁.heap.objs.size h (fun y => if y = Str.ofString "at" then some (.int 0 ta) else if y = Str.ofString "head" then some (.ref x) else if y = Str.ofString "end" then some (.int e te) else if y = Str.ofString "begin" then some (.int i0 tg) else if y = Str.ofString "data" then some (.bytes b tb) else if y = Str.ofString "pen" then some (.ref pen) else m0 y) →
    News s₁.heap s₁.heap.objs.size h [(pen, penO c g st pl t1 t2 t3 n), (c, listOf vs.toArray nc), (dx, curO w b i0 e tc ti td u1 u2 u3), (x, instObj 143 dx), (s₁.heap.objs.size + 1, oc)] →
    cellIs oc pb tp →
    PenOk vs ns g st pl 20 →
    DataOk b pb ks ps i0 e →
    @Ne Nat x dx →
    @Ne Nat pen dx →
    @Ne Nat c dx →
    @Ne Nat x pen →
    @Ne Nat c pen →
    @Ne Nat c x →
    @Ne Nat (s₁.heap.objs.size + 1) dx →
    @Ne Nat (s₁.heap.objs.size + 1) pen →
    @Ne Nat (s₁.heap.objs.size + 1) x →
    @Ne Nat (s₁.heap.objs.size + 1) c →
    C { s₁ with heap := h, toks := tk }) → C s'
theorem LawP1.intro {w : World} {s₁ : Shared} {h : Heap} {tk : Nat} {pen c x dx : Addr} {oc : Obj} {b pb : Array UInt8} {ks ps : List Int} {i0 e g st pl : Int} {vs : List Value} {ns : List Int} {nc n : Nat} {tb tp ti te tg ta t1 t2 t3 u1 u2 u3 td tc : Tok} {m0 : Str → Option Value}
    (F : Fr s₁.heap s₁.heap.objs.size h (fun y => if y = Str.ofString "at" then some (.int 0 ta) else if y = Str.ofString "head" then some (.ref x) else if y = Str.ofString "end" then some (.int e te) else if y = Str.ofString "begin" then some (.int i0 tg) else if y = Str.ofString "data" then some (.bytes b tb) else if y = Str.ofString "pen" then some (.ref pen) else m0 y))
    (N : News s₁.heap s₁.heap.objs.size h [(pen, penO c g st pl t1 t2 t3 n), (c, listOf vs.toArray nc), (dx, curO w b i0 e tc ti td u1 u2 u3), (x, instObj 143 dx), (s₁.heap.objs.size + 1, oc)])
    (hc : cellIs oc pb tp) (hp : PenOk vs ns g st pl 20) (hd : DataOk b pb ks ps i0 e)
    (n1 : @Ne Nat x dx ∧ @Ne Nat pen dx ∧ @Ne Nat c dx ∧ @Ne Nat x pen ∧ @Ne Nat c pen ∧ @Ne Nat c x) (n2 : @Ne Nat (s₁.heap.objs.size + 1) dx ∧ @Ne Nat (s₁.heap.objs.size + 1) pen ∧ @Ne Nat (s₁.heap.objs.size + 1) x ∧ @Ne Nat (s₁.heap.objs.size + 1) c) :
    LawP1 w s₁ { s₁ with heap := h, toks := tk } :=
  fun _ k9 => k9 h tk pen c x dx oc b pb ks ps i0 e g st pl vs ns nc n tb tp ti te tg ta t1 t2 t3 u1 u2 u3 td tc m0 F N hc hp hd n1.1 n1.2.1 n1.2.2.1 n1.2.2.2.1 n1.2.2.2.2.1 n1.2.2.2.2.2 n2.1 n2.2.1 n2.2.2.1 n2.2.2.2
/-- behind the deeds -/
def LawP2 (P : Int) (s₁ s' : Shared) : Prop :=
  ∀ C : Shared → Prop, (∀ (h : Heap) (tk : Nat) (pen c : Addr) (oc : Obj) (b pb : Array UInt8) (ks ps : List Int) (i0 e g st pl : Int) (vs : List Value) (ns : List Int) (nc n : Nat) (tb tp te tg t1 t2 t3 : Tok) (m0 : Str → Option Value),
    Fr s₁.heap s₁.heap.objs.size h (fun y => if y = Str.ofString "end" then some (.int e te) else if y = Str.ofString "begin" then some (.int i0 tg) else if y = Str.ofString "data" then some (.bytes b tb) else if y = Str.ofString "pen" then some (.ref pen) else m0 y) →
    News s₁.heap s₁.heap.objs.size h [(pen, penO c g st pl t1 t2 t3 n), (c, listOf vs.toArray nc), (s₁.heap.objs.size + 1, oc)] →
    cellIs oc pb tp →
    PenOk vs ns g st pl P →
    DataOk b pb ks ps i0 e →
    @Ne Nat c pen →
    @Ne Nat (s₁.heap.objs.size + 1) pen →
    @Ne Nat (s₁.heap.objs.size + 1) c →
    C { s₁ with heap := h, toks := tk }) → C s'
theorem LawP2.intro {P : Int} {s₁ : Shared} {h : Heap} {tk : Nat} {pen c : Addr} {oc : Obj} {b pb : Array UInt8} {ks ps : List Int} {i0 e g st pl : Int} {vs : List Value} {ns : List Int} {nc n : Nat} {tb tp te tg t1 t2 t3 : Tok} {m0 : Str → Option Value}
    (F : Fr s₁.heap s₁.heap.objs.size h (fun y => if y = Str.ofString "end" then some (.int e te) else if y = Str.ofString "begin" then some (.int i0 tg) else if y = Str.ofString "data" then some (.bytes b tb) else if y = Str.ofString "pen" then some (.ref pen) else m0 y))
    (N : News s₁.heap s₁.heap.objs.size h [(pen, penO c g st pl t1 t2 t3 n), (c, listOf vs.toArray nc), (s₁.heap.objs.size + 1, oc)])
    (hc : cellIs oc pb tp) (hp : PenOk vs ns g st pl P) (hd : DataOk b pb ks ps i0 e) (n1 : @Ne Nat c pen ∧ @Ne Nat (s₁.heap.objs.size + 1) pen ∧ @Ne Nat (s₁.heap.objs.size + 1) c) :
    LawP2 P s₁ { s₁ with heap := h, toks := tk } :=
  fun _ k9 => k9 h tk pen c oc b pb ks ps i0 e g st pl vs ns nc n tb tp te tg t1 t2 t3 m0 F N hc hp hd n1.1 n1.2.1 n1.2.2
theorem IterX_rangeI {prog : Program} {w : World} {A : Around} {s : Shared} {r : Addr} {d : Int} {t₀ u₀ v₀ : Tok} (hh : A.handled = none) (hr : IsRange s.heap r 0 d 1 t₀ u₀ v₀) (h0 : 0 ≤ d) (h1 : d ≤ 1000) : IterX prog w A (.ref r) s d.toNat (fun i v => ∃ t, v = .int i t) [] := by
  obtain ⟨n, rfl⟩ := Int.eq_ofNat_of_zero_le h0
  exact IterX.range hh hr (small_n (by omega)) (size_n n)
theorem news_turn {h₀ h : Heap} {L : Addr} {a b c d e f : Addr × Obj} (N : News h₀ L h [a, b, c, d, e, f]) : News h₀ L h (b :: c :: d :: e :: [a, f]) := by
  intro p hp
  simp only [List.mem_cons, List.not_mem_nil, or_false] at hp
  rcases hp with rfl | rfl | rfl | rfl | rfl | rfl
  · exact N _ (.tail _ (.head _))
  · exact N _ (.tail _ (.tail _ (.head _)))
  · exact N _ (.tail _ (.tail _ (.tail _ (.head _))))
  · exact N _ (.tail _ (.tail _ (.tail _ (.tail _ (.head _)))))
  · exact N _ (.head _)
  · exact N _ (.tail _ (.tail _ (.tail _ (.tail _ (.tail _ (.head _))))))
theorem news_turn2 {h₀ h : Heap} {L : Addr} {z a b c d e f : Addr × Obj} (N : News h₀ L h (z :: b :: c :: d :: e :: [a, f])) : News h₀ L h [a, b, c, d, e, f] := by
  intro p hp
  simp only [List.mem_cons, List.not_mem_nil, or_false] at hp
  rcases hp with rfl | rfl | rfl | rfl | rfl | rfl
  · exact N _ (.tail _ (.tail _ (.tail _ (.tail _ (.tail _ (.head _))))))
  · exact N _ (.tail _ (.head _))
  · exact N _ (.tail _ (.tail _ (.head _)))
  · exact N _ (.tail _ (.tail _ (.tail _ (.head _))))
  · exact N _ (.tail _ (.tail _ (.tail _ (.tail _ (.head _)))))
  · exact N _ (.tail _ (.tail _ (.tail _ (.tail _ (.tail _ (.tail _ (.head _)))))))
theorem five_off {I a b c d e : Addr} {oa ob oc od oe oa' ob' oc' od' oe' : Obj} (h : ∀ p ∈ [(a, oa), (b, ob), (c, oc), (d, od), (e, oe)], p.1 ≠ I) : ∀ p ∈ [(a, oa'), (b, ob'), (c, oc'), (d, od'), (e, oe')], p.1 ≠ I := by
  intro q hq
  simp only [List.mem_cons, List.not_mem_nil, or_false] at hq
  rcases hq with rfl | rfl | rfl | rfl | rfl
  · exact h (a, oa) (.head _)
  · exact h (b, ob) (.tail _ (.head _))
  · exact h (c, oc) (.tail _ (.tail _ (.head _)))
  · exact h (d, od) (.tail _ (.tail _ (.tail _ (.head _))))
  · exact h (e, oe) (.tail _ (.tail _ (.tail _ (.tail _ (.head _)))))
theorem news_law2 {h₀ h : Heap} {L : Addr} {a b c d e : Addr × Obj} (N : News h₀ L h [a, b, c, d, e]) : News h₀ L h [a, b, e] := by
  intro p hp
  simp only [List.mem_cons, List.not_mem_nil, or_false] at hp
  rcases hp with rfl | rfl | rfl
  · exact N _ (.head _)
  · exact N _ (.tail _ (.head _))
  · exact N _ (.tail _ (.tail _ (.tail _ (.tail _ (.head _)))))
theorem fr_law2 {h₀ h : Heap} {L : Addr} {v1 v2 v3 v4 v5 v6 : Option Value} {m m0 : Str → Option Value}
    (hm : ∀ q, q ≠ Str.ofString "turn" → q ≠ Str.ofString "is_right" → q ≠ Str.ofString "at" → m q = (fun y => if y = Str.ofString "at" then v1 else if y = Str.ofString "head" then v2 else if y = Str.ofString "end" then v3 else if y = Str.ofString "begin" then v4 else if y = Str.ofString "data" then v5 else if y = Str.ofString "pen" then v6 else m0 y) q)
    (F : Fr h₀ L h m) : Fr h₀ L h (fun y => if y = Str.ofString "end" then v3 else if y = Str.ofString "begin" then v4 else if y = Str.ofString "data" then v5 else if y = Str.ofString "pen" then v6 else m y) := by
  have e1 : m (Str.ofString "end") = v3 := by rw [hm _ (by decide) (by decide) (by decide)]; rfl
  have e2 : m (Str.ofString "begin") = v4 := by rw [hm _ (by decide) (by decide) (by decide)]; rfl
  have e3 : m (Str.ofString "data") = v5 := by rw [hm _ (by decide) (by decide) (by decide)]; rfl
  have e4 : m (Str.ofString "pen") = v6 := by rw [hm _ (by decide) (by decide) (by decide)]; rfl
  have F1 := fr_pull _ _ e4 F
  have F2 := fr_pull (Str.ofString "data") v5 ((if_neg (by decide)).trans e3) F1
  have F3 := fr_pull (Str.ofString "begin") v4 ((if_neg (by decide)).trans ((if_neg (by decide)).trans e2)) F2
  exact fr_pull (Str.ofString "end") v3 ((if_neg (by decide)).trans ((if_neg (by decide)).trans ((if_neg (by decide)).trans e1))) F3
theorem news_mid {h₀ h : Heap} {L : Addr} {D a b c : Addr × Obj} {tps : List (Addr × Obj)} (N : News h₀ L h (D :: (tps ++ [a, b, c]))) : News h₀ L h (a :: b :: c :: D :: tps) := by
  intro p hp
  rcases List.mem_cons.mp hp with rfl | hp
  · exact N _ (.tail _ (List.mem_append_right _ (.head _)))
  rcases List.mem_cons.mp hp with rfl | hp
  · exact N _ (.tail _ (List.mem_append_right _ (.tail _ (.head _))))
  rcases List.mem_cons.mp hp with rfl | hp
  · exact N _ (.tail _ (List.mem_append_right _ (.tail _ (.tail _ (.head _)))))
  rcases List.mem_cons.mp hp with rfl | hp
  · exact N _ (.head _)
  · exact N _ (.tail _ (List.mem_append_left _ hp))
theorem off_mid {D : Addr} {a b c : Addr × Obj} {tps : List (Addr × Obj)} (h : ∀ p ∈ tps ++ [a, b, c], p.1 ≠ D) : (@Ne Nat a.1 D ∧ @Ne Nat b.1 D ∧ @Ne Nat c.1 D) ∧ ∀ p ∈ tps, p.1 ≠ D :=
  ⟨⟨h _ (List.mem_append_right _ (.head _)), h _ (List.mem_append_right _ (.tail _ (.head _))), h _ (List.mem_append_right _ (.tail _ (.tail _ (.head _))))⟩, fun p hp => h p (List.mem_append_left _ hp)⟩
theorem fr_base {h₀ h : Heap} {L : Addr} {v3 v4 v5 v6 : Option Value} {m : Str → Option Value} (e1 : m (Str.ofString "end") = v3) (e2 : m (Str.ofString "begin") = v4) (e3 : m (Str.ofString "data") = v5) (e4 : m (Str.ofString "pen") = v6) (F : Fr h₀ L h m) :
    Fr h₀ L h (fun y => if y = Str.ofString "end" then v3 else if y = Str.ofString "begin" then v4 else if y = Str.ofString "data" then v5 else if y = Str.ofString "pen" then v6 else m y) := by
  have F1 := fr_pull _ _ e4 F
  have F2 := fr_pull (Str.ofString "data") v5 ((if_neg (by decide)).trans e3) F1
  have F3 := fr_pull (Str.ofString "begin") v4 ((if_neg (by decide)).trans ((if_neg (by decide)).trans e2)) F2
  exact fr_pull (Str.ofString "end") v3 ((if_neg (by decide)).trans ((if_neg (by decide)).trans ((if_neg (by decide)).trans e1))) F3
theorem news_law3 {h₀ h : Heap} {L : Addr} {a b c d1 d2 d3 : Addr × Obj} {l1 l2 : List (Addr × Obj)} (N : News h₀ L h (d3 :: (l1 ++ (d2 :: a :: b :: c :: d1 :: l2)))) : News h₀ L h [a, b, c] := by
  intro p hp
  refine N p (.tail _ (List.mem_append_right _ ?_))
  simp only [List.mem_cons, List.not_mem_nil, or_false] at hp ⊢
  rcases hp with rfl | rfl | rfl
  · exact .inr (.inl rfl)
  · exact .inr (.inr (.inl rfl))
  · exact .inr (.inr (.inr (.inl rfl)))
theorem two_off {a b d : Addr} {o p : Obj} (h1 : @Ne Nat a d) (h2 : @Ne Nat b d) : ∀ q ∈ [(a, o), (b, p)], q.1 ≠ d := by
  intro q hq
  simp only [List.mem_cons, List.not_mem_nil, or_false] at hq
  rcases hq with rfl | rfl
  · exact h1
  · exact h2
theorem fr_normT {h₀ h : Heap} {L : Addr} {x y z : Str} {a b : Option Value} {m m0 : Str → Option Value} (hy : m y = b) (hm : ∀ q, q ≠ x → q ≠ z → q ≠ y → m q = m0 q) (F : Fr h₀ L h (fun q => if q = x then a else m q)) :
    Fr h₀ L h (fun q => if q = x then a else if q = y then b else if q = z then m z else m0 q) := by
  have e : (fun q => if q = x then a else m q) = fun q => if q = x then a else if q = y then b else if q = z then m z else m0 q := by
    funext q
    by_cases hx : q = x
    · rw [if_pos hx, if_pos hx]
    · rw [if_neg hx, if_neg hx]
      by_cases hy' : q = y
      · rw [if_pos hy', hy', hy]
      · rw [if_neg hy']
        by_cases hz : q = z
        · rw [if_pos hz, hz]
        · rw [if_neg hz, hm q hx hz hy']
  rw [← e]; exact F
/-- a turn of the deeds -/
def TurnJ (w : World) (m0 : Str → Option Value) (pen c x dx cl : Addr) (oc : Obj) (b : Array UInt8) (tc te u1 u2 u3 : Tok) (vs : List Value) (ns : List Int) (nc : Nat) (i0 e : Int) (ps : List Int) (i : Nat) (m : Str → Option Value) (nw : List (Addr × Obj)) : Prop :=
  ∀ C : List (Addr × Obj) → Prop, (∀ at0 i1 ta ti g st pl t1 t2 t3 n, m (Str.ofString "at") = some (.int at0 ta) → (∀ q, q ≠ Str.ofString "turn" → q ≠ Str.ofString "is_right" → q ≠ Str.ofString "at" → m q = m0 q) →
    i1 = i0 + at0 → 0 ≤ at0 → at0 ≤ ps.length → PenOk vs ns g st pl (21 + 41 * i) → C [(pen, penO c g st pl t1 t2 t3 n), (c, listOf vs.toArray nc), (dx, curO w b i1 e tc ti te u1 u2 u3), (x, instObj 143 dx), (cl, oc)]) → C nw
theorem TurnJ.intro {w : World} {m0 : Str → Option Value} {pen c x dx cl : Addr} {oc : Obj} {b : Array UInt8} {tc te u1 u2 u3 : Tok} {vs : List Value} {ns : List Int} {nc : Nat} {i0 e : Int} {ps : List Int} {i : Nat} {m : Str → Option Value} {at0 i1 : Int} {ta ti : Tok} {g st pl : Int} {t1 t2 t3 : Tok} {n : Nat}
    (h1 : m (Str.ofString "at") = some (.int at0 ta)) (h2 : ∀ q, q ≠ Str.ofString "turn" → q ≠ Str.ofString "is_right" → q ≠ Str.ofString "at" → m q = m0 q) (h3 : i1 = i0 + at0) (h4 : 0 ≤ at0) (h5 : at0 ≤ ps.length) (h6 : PenOk vs ns g st pl (21 + 41 * i)) :
    TurnJ w m0 pen c x dx cl oc b tc te u1 u2 u3 vs ns nc i0 e ps i m [(pen, penO c g st pl t1 t2 t3 n), (c, listOf vs.toArray nc), (dx, curO w b i1 e tc ti te u1 u2 u3), (x, instObj 143 dx), (cl, oc)] := fun _ k => k _ _ _ _ _ _ _ _ _ _ _ h1 h2 h3 h4 h5 h6
theorem w_law_2 : True := by
  (k_with "halt" => ((with_reducible show wpAny _ _ (PySem.call (Value.ref 233) _) _ _ _)))
  trivial
theorem lines_len : ∀ (l row : List Int), (linesG row l).length ≤ l.length + 1 ∧ ∀ x ∈ linesG row l, x.length ≤ row.length + l.length
  | [], row => by
    rw [linesG]
    split
    · exact ⟨Nat.zero_le _, fun _ h => nomatch h⟩
    · refine ⟨Nat.le_refl _, fun x hx => ?_⟩
      rw [List.mem_singleton.mp hx]
      exact Nat.le_refl _
  | c :: cs, row => by
    rw [linesG]
    split
    · obtain ⟨h1, h2⟩ := lines_len cs []
      refine ⟨Nat.succ_le_succ h1, fun x hx => ?_⟩
      rcases List.mem_cons.mp hx with rfl | hx
      · simp only [List.length_append, List.length_cons, List.length_nil]; omega
      · have := h2 x hx
        simp only [List.length_cons, List.length_nil] at *
        omega
    · obtain ⟨h1, h2⟩ := lines_len cs (row ++ [c])
      refine ⟨Nat.le_succ_of_le h1, fun x hx => ?_⟩
      have := h2 x hx
      simp only [List.length_append, List.length_cons, List.length_nil] at *
      omega
theorem BytesL.at {vs : List Value} {ls : List (List Int)} (h : BytesL vs ls) : ∀ {i : Nat} {v : Value}, vs[i]? = some v → ∃ b t l, v = .bytes b t ∧ ls[i]? = some l ∧ KBw.bInts b = l := by
  induction h with
  | nil => intro i v hv; cases hv
  | cons hb _ ih =>
    intro i v hv
    cases i with
    | zero => exact ⟨_, _, _, (Option.some.inj hv).symm, rfl, hb⟩
    | succ i => exact ih hv
theorem plain_len {r : Array UInt8} {l : List Int} (hz : KBw.bInts r = plainK l) : (plainK l).length ≤ l.length := by
  unfold plainK
  split
  · rw [List.length_take]; omega
  · split
    · rw [List.length_take]; omega
    · exact Nat.le_refl _
theorem bne_bytes {a b : Array UInt8} (h : KBw.bInts a = KBw.bInts b) : (a.toList != b.toList) = false := by
  rw [bne, bytes_eqb, decide_eq_true h]; rfl
theorem trip_ok (ts : List Trip) : ∀ d ∈ ts.map tripD, kqdOk 8 d = true := by
  intro d hd
  obtain ⟨t, _, rfl⟩ := List.mem_map.mp hd
  rfl
def DueJ (D3 : Addr) (base : List (Addr × Obj)) (m0 : Str → Option Value) (i0 : Int) (ls : List (List Int)) (i : Nat) (m : Str → Option Value) (nw : List (Addr × Obj)) : Prop :=
  ∀ C : List (Addr × Obj) → Prop, (∀ (zs : List Value) (nz : Nat) (tps2 : List (Addr × Obj)) (trs : List Trip) (first : Int) (tf : Tok), m (Str.ofString "first") = some (.int first tf) → (∀ q, q ≠ Str.ofString "line" → q ≠ Str.ofString "first" → m q = m0 q) →
    DatAll tps2 zs (trs.map tripD) → (∀ p ∈ tps2 ++ base, p.1 ≠ D3) → zs.length ≤ i → trs ++ dueG first (ls.drop i) = dueG i0 ls → C ((D3, listOf zs.toArray nz) :: (tps2 ++ base))) → C nw
theorem DueJ.intro {D3 : Addr} {base : List (Addr × Obj)} {m0 : Str → Option Value} {i0 : Int} {ls : List (List Int)} {i : Nat} {m : Str → Option Value} {zs : List Value} {nz : Nat} {tps2 : List (Addr × Obj)} {trs : List Trip} {first : Int} {tf : Tok}
    (h1 : m (Str.ofString "first") = some (.int first tf)) (h2 : ∀ q, q ≠ Str.ofString "line" → q ≠ Str.ofString "first" → m q = m0 q) (h3 : DatAll tps2 zs (trs.map tripD)) (h4 : ∀ p ∈ tps2 ++ base, p.1 ≠ D3) (h5 : zs.length ≤ i) (h6 : trs ++ dueG first (ls.drop i) = dueG i0 ls) :
    DueJ D3 base m0 i0 ls i m ((D3, listOf zs.toArray nz) :: (tps2 ++ base)) := fun _ k => k _ _ _ _ _ _ h1 h2 h3 h4 h5 h6
theorem news_due {h₀ h : Heap} {L D3 T : Addr} {ot : Obj} {I : Addr × Obj} {zs : List Value} {nz : Nat} {tps2 base : List (Addr × Obj)} (N : News h₀ L h ((T, ot) :: I :: (D3, listOf (zs.toArray.push (.ref T)) nz) :: (tps2 ++ base))) :
    News h₀ L h (I :: (D3, listOf (zs ++ [Value.ref T]).toArray nz) :: (((T, ot) :: tps2) ++ base)) := by
  rw [List.push_toArray] at N
  intro p hp
  rcases List.mem_cons.mp hp with rfl | hp
  · exact N _ (.tail _ (.head _))
  rcases List.mem_cons.mp hp with rfl | hp
  · exact N _ (.tail _ (.tail _ (.head _)))
  rw [List.cons_append] at hp
  rcases List.mem_cons.mp hp with rfl | hp
  · exact N _ (.head _)
  · exact N _ (.tail _ (.tail _ (.tail _ hp)))
theorem due_offI {I D3 T : Addr} {o o2 ot : Obj} {tps2 base : List (Addr × Obj)} (h : ∀ p ∈ (D3, o) :: (tps2 ++ base), p.1 ≠ I) (hT : I < T) : ∀ p ∈ (D3, o2) :: (((T, ot) :: tps2) ++ base), p.1 ≠ I := by
  intro p hp
  rcases List.mem_cons.mp hp with rfl | hp
  · exact h (D3, o) (.head _)
  rw [List.cons_append] at hp
  rcases List.mem_cons.mp hp with rfl | hp
  · exact Nat.ne_of_gt hT
  · exact h p (.tail _ hp)
theorem due_off {l D2 pen c cl D1 : Addr} {o1 o2 o3 o4 o5 : Obj} {tps : List (Addr × Obj)} (h : D2 < l ∧ pen < l ∧ c < l ∧ cl < l ∧ D1 < l ∧ AllLt l tps) : ∀ p ∈ [] ++ ((D2, o1) :: (pen, o2) :: (c, o3) :: (cl, o4) :: (D1, o5) :: tps), p.1 ≠ l := by
  intro p hp
  rw [List.nil_append] at hp
  exact allLt_ne (l := (D2, o1) :: (pen, o2) :: (c, o3) :: (cl, o4) :: (D1, o5) :: tps) h p hp
theorem w_law_3 : True := by
  (k_with "call builtin:list.append" => ((k_here; (with_reducible show wpAny _ _ (call (Value.builtin "list.append") [Value.ref _, Value.ref _]) _ _ _); k_dflt (refine' append_K (by k_asm) (by k_asm) (by k_upd) ?_ (by (rw [List.size_toArray, PySem.sizeLine_eq]; omega))); intro _ _ _; (try k_sweep))))
  (k_with "halt" => ((with_reducible show wpAny _ _ (compareOp CmpOp.NotEq (Value.ref _) (Value.ref _)) _ _ _)))
  (k_with "call ref" => ((k_here; (with_reducible show wpAny _ _ (PySem.call (Value.ref 194) _) _ _ _); k_dflt (refine' spans_h (hb := (by assumption)) (hl := (by assumption)) (hi0 := (by assumption)) (he := (by assumption)) (he2 := (by assumption)) _ _ _ _ _ _ _ _ _ _ _ _ _ _ _ _ _ (by k_asm) (by k_asm) (by k_asm) (by k_asm) (by k_asm) (by first | assumption | exact rfl) (by ktr_room) (by ktr_units) ?_; intro _ _ _ _ _ _ _ _ _; (try dsimp only)))))
  (k_with "call ref" => ((k_here; (with_reducible show wpAny _ _ (PySem.call (Value.ref 240) _) _ _ _); k_dflt (refine' llines_h (hb := (by assumption)) (hl := (by omega)) _ _ _ _ _ _ _ _ _ _ _ _ _ _ _ _ _ (by k_asm) (by k_asm) (by k_asm) (by k_asm) (by k_asm) (by first | assumption | exact rfl) (by ktr_room) (by ktr_units) ?_; intro _ _ _ _ _ _ _ _; (try dsimp only)))))
  (k_with "call ref" => ((k_here; (with_reducible show wpAny _ _ (PySem.call (Value.ref 247) _) _ _ _); k_dflt (refine' plain_h (hb := (by assumption)) (hl := (by omega)) _ _ _ _ _ _ _ _ _ _ _ _ _ _ _ _ _ (by k_asm) (by k_asm) (by k_asm) (by k_asm) (by k_asm) (by first | assumption | exact rfl) (by ktr_room) (by ktr_units) ?_; intro _ _ _ _ _ _ hP'; (have hQ' := plain_len hP'); (try dsimp only)))))
  trivial
theorem tup_in {prog : Program} {w : World} {A : Around} {E : Value → Shared → Prop} {s : Shared} {h₀ : Heap} {L T : Addr} {news : List (Addr × Obj)} {k a b c : Int} {t ta tb tc : Tok} {n : Nat} {Q : Value → Shared → Prop} (N : News h₀ L s.heap news)
    (hm : (T, ({ cls := .type "tuple", data := .seq #[.int a ta, .int b tb, .int c tc] n } : Obj)) ∈ news) (h : Q (.bool (decide (k = a ∨ k = b ∨ k = c))) s) : wpAny (model prog w) A (compareOp .In (.int k t) (.ref T)) Q E s := by
  have hk : PySem.W.kf_ints [.int a ta, .int b tb, .int c tc] = true := rfl
  refine PySem.SeqAt.in_tupleAt (isInt k) (items := #[.int a ta, .int b tb, .int c tc]) ⟨_, (N _ hm).1, rfl, _, rfl⟩ (fun y hy => (kf_eq hk y (by simpa using hy)).at _ _) ?_
  have e : (#[Value.int a ta, Value.int b tb, Value.int c tc]).any (isInt k) = decide (k = a ∨ k = b ∨ k = c) := by
    rw [← Array.any_toList]
    show ((a == k) || ((b == k) || ((c == k) || false))) = _
    rw [Bool.eq_iff_iff, decide_eq_true_iff]
    simp only [Bool.or_eq_true, beq_iff_eq, Bool.false_eq_true, or_false]
    constructor <;> intro h <;> omega
  rw [e]; exact h
theorem w_law_4 : True := by
  (k_with "compareOp In int ref" => ((k_here; k_dflt (refine' tup_in (by k_asm) (by k_mem) ?_))))
  trivial
theorem part_in {ks ps : List Int} {i0 e : Int} (hm : ∀ k ∈ ks, k ∈ ([97, 90, 48, 57, 13, 10, 32, 200, 122] : List Int)) (hps : ps = sg ks i0 e) {i : Nat} {k : Int} (hk : ps[i]? = some k) : k ∈ ([97, 90, 48, 57, 13, 10, 32, 200, 122] : List Int) := by
  have := List.mem_of_getElem? hk
  rw [hps, sg] at this
  exact hm k (List.mem_of_mem_take (List.mem_of_mem_drop this))
theorem low_not {k : Int} (hm : k ∈ ([97, 90, 48, 57, 13, 10, 32, 200, 122] : List Int)) (h : ¬ (k = 65 ∨ k = 66 ∨ k = 90)) : lowK k = k := by
  simp only [List.mem_cons, List.not_mem_nil, or_false] at hm
  refine if_neg fun q => ?_
  omega
theorem part_kba {pb : Array UInt8} {ps : List Int} (h : KBw.bInts pb = ps) : ∀ k ∈ ps, 0 ≤ k ∧ k < 256 := fun k hk => KBw.ints_in (b := pb) (by rw [h]; exact hk)
theorem low_kba {ps : List Int} (h : ∀ k ∈ ps, 0 ≤ k ∧ k < 256) : KBa.In (ps.map lowK) := fun k hk => by
  obtain ⟨k0, h0, rfl⟩ := List.mem_map.mp hk
  have := h k0 h0
  unfold lowK
  split <;> omega
/-- small and text are made -/
def LawP5 (P : Int) (s₁ s' : Shared) : Prop :=
  ∀ C : Shared → Prop, (∀ (h : Heap) (tk : Nat) (pen c : Addr) (oc : Obj) (b pb sb : Array UInt8) (ks ps : List Int) (i0 e g st pl : Int) (vs : List Value) (ns : List Int) (nc n : Nat) (tp ts tt t1 t2 t3 : Tok) (m0 : Str → Option Value),
    Fr s₁.heap s₁.heap.objs.size h (fun y => if y = Str.ofString "text" then some (.str (strK ps) tt) else if y = Str.ofString "small" then some (.bytes sb ts) else if y = Str.ofString "pen" then some (.ref pen) else m0 y) →
    News s₁.heap s₁.heap.objs.size h [(pen, penO c g st pl t1 t2 t3 n), (c, listOf vs.toArray nc), (s₁.heap.objs.size + 1, oc)] →
    cellIs oc pb tp →
    PenOk vs ns g st pl P →
    DataOk b pb ks ps i0 e →
    KBw.bInts sb = ps.map lowK →
    @Ne Nat c pen →
    @Ne Nat (s₁.heap.objs.size + 1) pen →
    @Ne Nat (s₁.heap.objs.size + 1) c →
    C { s₁ with heap := h, toks := tk }) → C s'
theorem LawP5.intro {P : Int} {s₁ : Shared} {h : Heap} {tk : Nat} {pen c : Addr} {oc : Obj} {b pb sb : Array UInt8} {ks ps : List Int} {i0 e g st pl : Int} {vs : List Value} {ns : List Int} {nc n : Nat} {tp ts tt t1 t2 t3 : Tok} {m0 : Str → Option Value}
    (F : Fr s₁.heap s₁.heap.objs.size h (fun y => if y = Str.ofString "text" then some (.str (strK ps) tt) else if y = Str.ofString "small" then some (.bytes sb ts) else if y = Str.ofString "pen" then some (.ref pen) else m0 y))
    (N : News s₁.heap s₁.heap.objs.size h [(pen, penO c g st pl t1 t2 t3 n), (c, listOf vs.toArray nc), (s₁.heap.objs.size + 1, oc)])
    (hc : cellIs oc pb tp) (hp : PenOk vs ns g st pl P) (hd : DataOk b pb ks ps i0 e) (hs : KBw.bInts sb = ps.map lowK) (n1 : @Ne Nat c pen ∧ @Ne Nat (s₁.heap.objs.size + 1) pen ∧ @Ne Nat (s₁.heap.objs.size + 1) c) :
    LawP5 P s₁ { s₁ with heap := h, toks := tk } :=
  fun _ k9 => k9 h tk pen c oc b pb sb ks ps i0 e g st pl vs ns nc n tp ts tt t1 t2 t3 m0 F N hc hp hd hs n1.1 n1.2.1 n1.2.2
theorem fr_base5 {h₀ h : Heap} {L : Addr} {v4 v5 v6 : Option Value} {m : Str → Option Value} (e1 : m (Str.ofString "text") = v4) (e2 : m (Str.ofString "small") = v5) (e3 : m (Str.ofString "pen") = v6) (F : Fr h₀ L h m) :
    Fr h₀ L h (fun y => if y = Str.ofString "text" then v4 else if y = Str.ofString "small" then v5 else if y = Str.ofString "pen" then v6 else m y) := by
  have F1 := fr_pull _ _ e3 F
  have F2 := fr_pull (Str.ofString "small") v5 ((if_neg (by decide)).trans e2) F1
  exact fr_pull (Str.ofString "text") v4 ((if_neg (by decide)).trans ((if_neg (by decide)).trans e1)) F2
/-- the pair is made -/
def LawP6 (P : Int) (s₁ s' : Shared) : Prop :=
  ∀ C : Shared → Prop, (∀ (h : Heap) (tk : Nat) (pen c : Addr) (oc : Obj) (b pb sb qb : Array UInt8) (ks ps qs : List Int) (i0 e g st pl : Int) (vs : List Value) (ns : List Int) (nc n : Nat) (tp ts tt tq t1 t2 t3 : Tok) (m0 : Str → Option Value),
    Fr s₁.heap s₁.heap.objs.size h (fun y => if y = Str.ofString "pair" then some (.bytes qb tq) else if y = Str.ofString "text" then some (.str (strK ps) tt) else if y = Str.ofString "small" then some (.bytes sb ts) else if y = Str.ofString "pen" then some (.ref pen) else m0 y) →
    News s₁.heap s₁.heap.objs.size h [(pen, penO c g st pl t1 t2 t3 n), (c, listOf vs.toArray nc), (s₁.heap.objs.size + 1, oc)] →
    cellIs oc pb tp →
    PenOk vs ns g st pl P →
    DataOk b pb ks ps i0 e →
    KBw.bInts sb = ps.map lowK →
    KBw.bInts qb = qs →
    qs.length ≤ 28 →
    @Ne Nat c pen →
    @Ne Nat (s₁.heap.objs.size + 1) pen →
    @Ne Nat (s₁.heap.objs.size + 1) c →
    C { s₁ with heap := h, toks := tk }) → C s'
theorem LawP6.intro {P : Int} {s₁ : Shared} {h : Heap} {tk : Nat} {pen c : Addr} {oc : Obj} {b pb sb qb : Array UInt8} {ks ps qs : List Int} {i0 e g st pl : Int} {vs : List Value} {ns : List Int} {nc n : Nat} {tp ts tt tq t1 t2 t3 : Tok} {m0 : Str → Option Value}
    (F : Fr s₁.heap s₁.heap.objs.size h (fun y => if y = Str.ofString "pair" then some (.bytes qb tq) else if y = Str.ofString "text" then some (.str (strK ps) tt) else if y = Str.ofString "small" then some (.bytes sb ts) else if y = Str.ofString "pen" then some (.ref pen) else m0 y))
    (N : News s₁.heap s₁.heap.objs.size h [(pen, penO c g st pl t1 t2 t3 n), (c, listOf vs.toArray nc), (s₁.heap.objs.size + 1, oc)])
    (hc : cellIs oc pb tp) (hp : PenOk vs ns g st pl P) (hd : DataOk b pb ks ps i0 e) (hs : KBw.bInts sb = ps.map lowK) (hq : KBw.bInts qb = qs) (hql : qs.length ≤ 28) (n1 : @Ne Nat c pen ∧ @Ne Nat (s₁.heap.objs.size + 1) pen ∧ @Ne Nat (s₁.heap.objs.size + 1) c) :
    LawP6 P s₁ { s₁ with heap := h, toks := tk } :=
  fun _ k9 => k9 h tk pen c oc b pb sb qb ks ps qs i0 e g st pl vs ns nc n tp ts tt tq t1 t2 t3 m0 F N hc hp hd hs hq hql n1.1 n1.2.1 n1.2.2
theorem fr_base6 {h₀ h : Heap} {L : Addr} {v3 v4 v5 v6 : Option Value} {m : Str → Option Value} (e0 : m (Str.ofString "pair") = v3) (e1 : m (Str.ofString "text") = v4) (e2 : m (Str.ofString "small") = v5) (e3 : m (Str.ofString "pen") = v6) (F : Fr h₀ L h m) :
    Fr h₀ L h (fun y => if y = Str.ofString "pair" then v3 else if y = Str.ofString "text" then v4 else if y = Str.ofString "small" then v5 else if y = Str.ofString "pen" then v6 else m y) :=
  fr_pull (Str.ofString "pair") v3 ((if_neg (by decide)).trans ((if_neg (by decide)).trans ((if_neg (by decide)).trans e0))) (fr_base5 e1 e2 e3 F)
theorem rep_a_len {n : Nat} {l : List Int} (h : l.length ≤ n) : (rep [97] [65] n l).length = l.length := by
  rw [rep_one 97 [65] n l h]
  clear h
  induction l with
  | nil => rfl
  | cons x r ih =>
    rw [List.flatMap_cons, List.length_append, ih, List.length_cons]
    split <;> simp only [List.length_cons, List.length_nil] <;> omega
theorem w_law_5 : True := by
  (k_with "eval ListComp" => ((k_here; k_dflt (refine ListComp_I (zF₀ := by k_asm) (by with_unfolding_all rfl) (by decide) (by rfl) (by decide) (by rfl) ?_))))
  (k_with "call ref" => ((k_here; (with_reducible show wpAny _ _ (PySem.call (Value.ref 176) [Value.bytes _ _, Value.bytes _ _]) _ _ _); k_dflt (refine' sameb_h (hb := (by assumption)) (hl := (by omega)) (hc := (by assumption)) (hl2 := (by omega)) _ _ _ _ _ _ _ _ _ _ _ _ _ _ _ _ _ (by k_asm) (by k_asm) (by k_asm) (by k_asm) (by k_asm) (by first | assumption | exact rfl) (by ktr_room) (by ktr_units) ?_; intro _ _ _ _ hS'; clear hS'; (try dsimp only)))))
  trivial
theorem up_kba {ps : List Int} (h : ∀ k ∈ ps, 0 ≤ k ∧ k < 256) : ∀ k ∈ ps.map upK, 0 ≤ k ∧ k < 256 := fun k hk => by
  obtain ⟨k0, h0, rfl⟩ := List.mem_map.mp hk
  have := h k0 h0
  unfold upK
  split <;> omega
theorem up_low (ps : List Int) : ps.map lowK = (ps.map upK).map lowK := by
  rw [List.map_map]
  refine List.map_congr_left fun k _ => ?_
  show lowK k = lowK (upK k)
  by_cases h1 : 97 ≤ k ∧ k ≤ 122
  · have e : upK k = k - 32 := up_in h1.1 h1.2
    rw [e, lowK, lowK, if_neg (by omega), if_pos (by omega)]
    omega
  · have e : upK k = k := if_neg h1
    rw [e]
theorem w_law_6 : True := by
  (k_with "call ref" => ((k_here; (with_reducible show wpAny _ _ (PySem.call (Value.ref 176) [Value.str (strK _) _, Value.str (strK _) _]) _ _ _); k_dflt (refine' samet_h (hk := (by assumption)) (hl := (by omega)) (hk2 := (by assumption)) (hl2 := (by assumption)) (he := (by assumption)) _ _ _ _ _ _ _ _ _ _ _ _ _ _ _ _ _ (by k_asm) (by k_asm) (by k_asm) (by k_asm) (by k_asm) (by first | assumption | exact rfl) (by ktr_room) (by ktr_units) ?_; intro _ _ _ _ hS'; clear hS'; (try dsimp only)))))
  trivial
/-- ahead of the last line -/
def LawP9 (s₁ s' : Shared) : Prop :=
  ∀ C : Shared → Prop, (∀ (h : Heap) (tk : Nat) (m : Str → Option Value),
    Fr s₁.heap s₁.heap.objs.size h m →
    C { s₁ with heap := h, toks := tk }) → C s'
theorem LawP9.intro {s₁ : Shared} {h : Heap} {tk : Nat} {m : Str → Option Value} (F : Fr s₁.heap s₁.heap.objs.size h m) : LawP9 s₁ { s₁ with heap := h, toks := tk } := fun _ k9 => k9 h tk m F
theorem w_law_7 : True := by
  (k_with "exec Assign cons ListComp" => ((k_here; lct_look; k_dflt (refine LCt.Assign_ListComp_T (F₀ := by k_asm) (by rfl) (by with_unfolding_all rfl) (by with_unfolding_all rfl) (by decide) (by rfl) (by decide) (by rfl) (by rfl) (by rfl) ?_))))
  (k_with "halt" => ((with_reducible show LCt.CompSrcT _ _ _ _ _ _ _ _ _ _ _ _ _ _ _)))
  (k_with "halt" => ((with_reducible show wpAny _ _ (PySem.call (Value.ref 254) _) _ _ _)))
  (k_with "halt" => ((with_reducible show wpAny _ _ (PySem.call (Value.ref 133) _) _ _ _)))
  trivial
theorem law_true {cl : Str → Option Addr} {mean : ExcName → Option Value} {args : List WData} {s₁ s' : Shared} {x : Bool} (hx : x = true) (hk : ∀ b o, s₁.heap.get? b = some o → s'.heap.get? b = some o) (hg : s'.gens = #[]) (hos : s'.os = s₁.os) :
    GoodW PySem.Challenge.rw_no0362_01.row.claim cl mean args s₁ (.ok (.ret (.bool x))) s' := by
  subst hx
  exact ⟨.inl ⟨_, .bool true, [], rfl, raisesW_false (fun _ h => nomatch h), .bool _, postW_of rfl rfl (by w_fin), fun _ => ⟨.nil, fun _ h => nomatch h⟩⟩, hk, hos, hg⟩
theorem law_holds : PySem.Challenge.rw_no0362_01.Holds := by
  refine hd rfl rfl rfl ?_
  k_fill
  intro w s₀ s₁ mg mb G Y fa o pm cd doc dV kV ho hd1 hcd hD hmg hg args vals as hpre hlay hrd hwl hlo
  have KX := kIn_of Y
  have X := (Ground.X G).1
  have V := (Ground.X G).2
  refine Ground.open G ?_
  intro T B D TE TW
  try (refine guard_noD D (by decide +kernel) ?_; clear D)
  obtain ⟨_, _, M⟩ := bmod_of_top T
  have TA := at_of_top T
  try (obtain ⟨_, _, he, B0⟩ := based_of_top T rfl hmg ho hd1; have he' : cd = _ := he; subst he'; clear he)
  clear hmg
  wrow_args hpre hlay hrd hwl hlo
  rename IntsAre _ _ => hI
  rename Heap.IsList _ _ _ => hL
  refine wpAny_guarded ?_ (wpAny_pure (GoodW.toG ?_))
  · refine wpS_call (codeS_mono ?_ (fun _ _ g => g))
    have K0 := below_caller s₁.heap
    have he := Dflts.none hD rfl
    subst he
    have he := Dflts.noKw hD
    subst he
    refine call_cellsS (by decide) ho (fd_plain hd1) (Top.nolimit T) hcd rfl (kinds_of (by kinds_ok)) (by decide) ?_
    intro h₁ tk cells F N Y
    cells_open Y
    clear hd1 TA
    refine cutS 7 (LawP1 w s₁) ?_ ?_
    · simp only [List.take_succ_cons, List.take_zero]
      iterate 7 ((try dsimp only); k_dflt (refine execsS_any ?_; walk_at "go"))
      (try dsimp only)
      refine execsS_nil ?_
      (try dsimp only)
      rename Fr _ _ _ _ => F9
      rename News _ _ _ _ => N9
      have N10 := news_pen5 N9
      clear N9
      split at N10
      · exfalso
        omega
      rename KBw.bInts (KBy.picked _ _ _) = _ => kb
      refine LawP1.intro (ks := wK) F9 N10 (by assumption) ⟨by assumption, by assumption, by assumption, by assumption, by assumption, by assumption, by omega, by omega⟩ ⟨wH, by omega, wM, by assumption, by omega, by omega, rfl, kb.trans (cut_eq (by omega) (by omega))⟩ ⟨?_, ?_, ?_, ?_, ?_, ?_⟩ ⟨?_, ?_, ?_, ?_⟩
      all_goals first | assumption | k_ne
    intro s' z9; refine z9 _ ?_; clear z9; intro h tk pen c x dx oc b pb ks ps i0 e g st pl vs ns nc n tb tp ti te tg ta t1 t2 t3 u1 u2 u3 td tc m0 F N hc hp hd' x1 x2 x3 x4 x5 x6 y1 y2 y3 y4
    refine cutS 1 (LawP2 500 s₁) ?_ ?_
    · simp only [List.drop_succ_cons, List.drop_zero, List.take_succ_cons, List.take_zero]
      have ⟨q1, q2, q3, q4, q5, q6, q7, q8⟩ := hp
      have ⟨r1, r2, r3, r4, r5, r6, r7, r8⟩ := hd'
      have hpl := sg_len r4 r5 r6
      rw [← r8] at hpl
      k_dflt (refine execsS_any ?_; walk_at "go")
      rename Fr _ _ _ _ => F9
      rename News _ _ _ _ => N9
      rename IsRange _ _ _ _ _ _ _ _ => hR
      refine For_X (TurnJ w _ pen c x dx (s₁.heap.objs.size + 1) oc b tc td u1 u2 u3 vs ns nc i0 e ps) (IterX_rangeI rfl hR (by assumption) (by omega)) F9 N9 (TurnJ.intro (at0 := 0) rfl (fun _ _ _ _ => rfl) (by omega) (Int.le_refl _) (by omega) ⟨q1, q2, by assumption, by assumption, by assumption, by assumption, by omega, by omega⟩) (fun _ _ _ _ p hp => nomatch hp) ?_ ?_
      · rintro i v m₁ nw I oI h9 tk9 hi ⟨uu, rfl⟩ hJ hI F2 N2
        revert hI F2 N2
        apply hJ
        clear hJ
        intro at0 i1 ta0 ti0 g0 st0 pl0 w1 w2 w3 n0 hat hm hi1 ha0 ha1 hp0 hI F2 N2
        have F3 := fr_normT hat hm F2
        clear F2
        have ⟨q1, q2, q3, q4, q5, q6, q7, q8⟩ := hp0
        walk_at "go"
        rename Fr _ _ _ _ => F5
        rename News _ _ _ _ => N5
        have z1 : @Ne Nat I pen := Ne.symm (hI _ (.head _))
        have z2 : @Ne Nat I c := Ne.symm (hI _ (.tail _ (.head _)))
        have z3 : @Ne Nat I dx := Ne.symm (hI _ (.tail _ (.tail _ (.head _))))
        have z4 : @Ne Nat I x := Ne.symm (hI _ (.tail _ (.tail _ (.tail _ (.head _)))))
        have z5 : @Ne Nat (s₁.heap.objs.size + 1) I := hI _ (.tail _ (.tail _ (.tail _ (.tail _ (.head _)))))
        k_dflt (refine' deed_h (news := [(I, oI), (s₁.heap.objs.size + 1, oc)]) x1 x2 x3 x4 x5 ?n1q1 ?n2q1 q1 q2 q3 q4 q5 q6 q7 ?n3q1 r1 r2 r4 r5 r6 r7 r8 ha0 ha1 hi1 _ _ _ _ _ _ _ _ _ _ _ _ _ _ _ _ _ ?Bq1 F5 ?Xq1 (news_turn N5) ?Tq1 ?Kq1 ?Dq1 ?uq1 ?_; (case Bq1 => k_asm); (case Xq1 => k_asm); (case Tq1 => k_asm); (case Kq1 => exact rfl); (case Dq1 => ktr_room); (case uq1 => ktr_units); (case n3q1 => omega))
        case n1q1 => exact two_off z3 y1
        case n2q1 => exact two_off z1 y2
        intro D bb at1 ta1 i2 ti2 g2 st2 pl2 v1 v2 v3 n2 h' tk' F' N' ⟨hbb, ⟨a0, a1, a2⟩, ⟨g20, g21, s20, s21, p20, p21⟩, ⟨d1, d2, d3, d4, d5⟩⟩
        subst hbb
        walk_at "go"
        · exfalso
          omega
        · rename Fr _ _ _ _ => F6
          rename News _ _ _ _ => N6
          refine TurnX.next F6 (news_turn2 N6) (five_off hI) (TurnJ.intro rfl ?_ a2 a0 a1 ⟨q1, q2, g20, g21, s20, s21, by omega, by omega⟩)
          intro q h1 h2 h3
          simp only [if_neg h1, if_neg h2, if_neg h3]
      · intro h9 tk9 m₁ nw hJ F2 N2
        revert F2 N2
        apply hJ
        clear hJ
        intro at0 i1 ta0 ti0 g0 st0 pl0 w1 w2 w3 n0 hat hm hi1 ha0 ha1 hp0 F2 N2
        have ⟨q1, q2, q3, q4, q5, q6, q7, q8⟩ := hp0
        (try dsimp only)
        refine execsS_nil ?_
        (try dsimp only)
        refine LawP2.intro (ks := ks) (fr_law2 hm F2) (news_law2 N2) hc ⟨q1, q2, q3, q4, q5, q6, q7, by omega⟩ hd' ⟨x5, y2, y4⟩
    clear hc hp hd' x1 x2 x3 x4 x5 x6 y1 y2 y3 y4 F N
    intro s' z9; refine z9 _ ?_; clear z9; intro h tk pen c oc b pb ks ps i0 e g st pl vs ns nc n tb tp te tg t1 t2 t3 m0 F N hc hp hd' x5 y2 y4
    refine cutS 6 (LawP2 500 s₁) ?_ ?_
    · simp only [List.drop_succ_cons, List.drop_zero, List.take_succ_cons, List.take_zero]
      have ⟨r1, r2, r3, r4, r5, r6, r7, r8⟩ := hd'
      have hpl := sg_len r4 r5 r6
      rw [← r8] at hpl
      k_dflt (refine execsS_any ?_; walk_at "go")
      rename News _ _ _ _ => N9
      rename DatAll _ _ _ ∧ _ => hS
      have N8 := news_mid N9
      have hSo := off_mid hS.2
      clear N9
      (try dsimp only)
      k_dflt (refine execsS_any ?_; walk_at "go")
      (try dsimp only)
      k_dflt (refine execsS_any ?_; walk_at "go")
      (try dsimp only)
      k_dflt (refine execsS_any ?_; walk_at "go")
      (try dsimp only)
      k_dflt (refine execsS_any ?_; walk_at "go")
      rename News _ _ _ _ => N7
      rename Fr _ _ _ _ => F7
      rename BytesL _ _ ∧ _ => hL2
      rename _ < _ ∧ _ < _ ∧ _ < _ ∧ _ < _ ∧ _ < _ ∧ AllLt _ _ => l9
      have ⟨hLb, hLo⟩ := hL2
      have hll := lines_len ps []
      have hLn := hLb.length
      refine For_X (DueJ _ _ _ i0 (linesG [] ps)) (IterX.list rfl (N7 _ (.tail _ (.head _))).1) F7 N7 (DueJ.intro (zs := []) (tps2 := []) (trs := []) (first := i0) rfl (fun _ _ _ => rfl) .nil (due_off l9) (Nat.zero_le _) rfl) ?_ ?_ ?_
      · intro i m nw hJ p hp
        refine hJ (fun nw => p ∈ nw) ?_
        intro zs nz tps2 trs first tf _ _ _ _ _ _
        rw [List.mem_singleton.mp hp]
        exact .tail _ (List.mem_append_right _ (.head _))
      · intro i v m₁ nw I oI h9 tk9 hi hv hJ hI F2 N2
        revert hI F2 N2
        apply hJ
        clear hJ
        intro zs nz tps2 trs first tf hfi hm hda hDD hzl hdu hI F2 N2
        obtain ⟨bl, tl, l, rfl, hl1, hl2⟩ := hLb.at hv
        have F3 := fr_norm2 hfi hm F2
        have hl14 := hll.2 l (List.mem_of_getElem? hl1)
        rw [List.length_nil, Nat.zero_add] at hl14
        have hI1 : @Ne Nat _ I := hI _ (.head _)
        have hz28 : zs.length ≤ 28 := by omega
        clear F2
        walk_at "go"
        rename Fr _ _ _ _ => F5
        rename News _ _ _ _ => N5
        rename _ < _ ∧ _ < _ ∧ AllLt _ _ => l5
        obtain ⟨z1, z2⟩ := trip_snoc (a := first) (b := first + ((plainK l).length : Int)) (c := first + (l.length : Int)) hda hDD l5.2.1
        refine TurnX.next F5 (news_due N5) (due_offI hI l5.1) (DueJ.intro (trs := trs ++ [(first, first + ((plainK l).length : Int), first + (l.length : Int))]) (first := first + (l.length : Int)) rfl ?_ z1 z2 ?_ ?_)
        · intro q h1 h2
          simp only [if_neg h1, if_neg h2]
        · rw [List.length_append, List.length_singleton]
          omega
        · have hi' : i < (linesG [] ps).length := by omega
          have hge : (linesG [] ps)[i] = l := by
            rw [List.getElem?_eq_getElem hi'] at hl1
            exact Option.some.inj hl1
          rw [← hdu, List.drop_eq_getElem_cons hi', hge, List.append_assoc]
          rfl
      · intro h9 tk9 m₁ nw hJ F2 N2
        revert F2 N2
        apply hJ
        clear hJ
        intro zs nz tps2 trs first tf hfi hm hda hDD hzl hdu F2 N2
        have F3 := fr_norm2' hfi hm F2
        clear F2
        rw [hLn, List.drop_length, dueG, List.append_nil, r8, ← spans_due r6 20 i0 r4 r5 (by omega)] at hdu
        (try dsimp only)
        k_dflt (refine execsS_any ?_; walk_at "go")
        subst hdu
        rename News _ _ _ _ => N6
        refine kqd_ne N6 (.tail _ (List.mem_append_right _ (.tail _ (.tail _ (.tail _ (.tail _ (.head _))))))) rfl rfl hS.1 (fun p hp => .tail _ (List.mem_append_right _ (.tail _ (.tail _ (.tail _ (.tail _ (.tail _ hp))))))) (.head _) rfl rfl hda (fun p hp => .tail _ (List.mem_append_left _ hp)) (trip_ok _) (trip_ok _) (Nat.le_of_ble_eq_true rfl) ?_
        simp only [eq_self, decide_true, Bool.not_true]
        walk_at "go"
        rename Fr _ _ _ _ => F6
        refine execsS_nil ?_
        (try dsimp only)
        exact LawP2.intro (ks := ks) (fr_base rfl rfl rfl rfl F6) (news_law3 N6) hc hp hd' ⟨x5, y2, y4⟩
    clear hc hp hd' x5 y2 y4 F N
    intro s' z9; refine z9 _ ?_; clear z9; intro h tk pen c oc b pb ks ps i0 e g st pl vs ns nc n tb tp te tg t1 t2 t3 m0 F N hc hp hd' x5 y2 y4
    refine cutS 2 (LawP2 500 s₁) ?_ ?_
    · simp only [List.drop_succ_cons, List.drop_zero, List.take_succ_cons, List.take_zero]
      have ⟨r1, r2, r3, r4, r5, r6, r7, r8⟩ := hd'
      have hpl := sg_len r4 r5 r6
      rw [← r8] at hpl
      k_dflt (refine execsS_any ?_; walk_at "go")
      (try dsimp only)
      rename KBw.bInts _ = rep _ _ _ (rep _ _ _ (rep _ _ _ _)) => hr9
      have hdue := hr9.trans (rep_chain ps (Nat.le_succ _) (Nat.le_succ _) (Nat.le_succ _))
      have hl28 : (cacc ps ps.length).length ≤ 28 := Nat.le_trans (cacc_len ps _) (by omega)
      clear hr9
      refine execsS (ifS (isTrue_orS (isTrue_compareS (callES ?_))))
      walk_at "go"
      walk_at "callWith S"
      walk_at "go"
      walk_at "call canon"
      walk_at "go"
      · rename KBw.bInts _ = cacc ps _ => hC
        rename (_ != _) = true => q
        rw [bne_bytes (hC.trans hdue.symm)] at q
        cases q
      refine isTrue_orS (isTrue_compareS (callES ?_))
      walk_at "go"
      walk_at "callWith S"
      walk_at "go"
      walk_at "call canon"
      walk_at "go"
      · rename KBw.bInts _ = cacc (cacc _ _) _ => hC
        rename (_ != _) = true => q
        rw [bne_bytes (hC.trans ((cacc_twice ps).trans hdue.symm))] at q
        cases q
      refine isTrue_orS (isTrue_compareS (callES ?_))
      walk_at "go"
      walk_at "callWith S"
      walk_at "go"
      k_dflt (refine' iscan_s (hb := ?hbq2) (hl := ?hlq2) _ _ _ _ _ _ _ _ _ _ _ _ _ _ _ _ _ ?Bq2 ?Fq2 ?Xq2 ?Nq2 ?Tq2 ?Kq2 ?Dq2 ?uq2 ?_; (case Bq2 => k_asm); (case Fq2 => k_asm); (case Xq2 => k_asm); (case Nq2 => k_asm); (case Tq2 => k_asm); (case Kq2 => first | assumption | exact rfl); (case Dq2 => ktr_room); (case uq2 => ktr_units); (case hbq2 => exact r7); (case hlq2 => omega))
      intro h' tk' F' N' _
      walk_at "go"
      · rename (decide _ != _) = true => q
        rw [bytes_eqb, r7, hdue, show decide (ps = cacc ps ps.length) = decide (cacc ps ps.length = ps) from decide_eq_decide.mpr eq_comm, bne_self_eq_false] at q
        cases q
      refine isTrue_or_nilS ?_
      rename Fr _ _ _ _ => F6
      rename News _ _ _ _ => N6
      dsimp only
      rw [if_neg Bool.false_ne_true]
      refine execsS_nil ?_
      (try dsimp only)
      refine execsS_nil ?_
      (try dsimp only)
      exact LawP2.intro (ks := ks) (fr_base rfl rfl rfl rfl F6) N6 hc hp hd' ⟨x5, y2, y4⟩
    clear hc hp hd' x5 y2 y4 F N
    intro s' z9; refine z9 _ ?_; clear z9; intro h tk pen c oc b pb ks ps i0 e g st pl vs ns nc n tb tp te tg t1 t2 t3 m0 F N hc hp hd' x5 y2 y4
    refine cutS 3 (LawP5 500 s₁) ?_ ?_
    · simp only [List.drop_succ_cons, List.drop_zero, List.take_succ_cons, List.take_zero]
      have ⟨r1, r2, r3, r4, r5, r6, r7, r8⟩ := hd'
      have hpl := sg_len r4 r5 r6
      rw [← r8] at hpl
      k_dflt (refine execsS_any ?_; walk_at "go")
      have hbl : pb.size = ps.length := by rw [← r7, KBw.ints_length]
      have hp14 : ps.length ≤ 14 := by omega
      have hj14 : ((ps.map chrK).map (·.length)).sum ≤ 14 := by rw [chr_sum]; exact hp14
      refine SrcI.intro (IterOf.bytes (by rfl)) (by k_asm) (by k_asm) (by rw [PySem.sizeLine_eq]; omega) ?_
      intro gg
      refine comp_inv (fun i ys nw => IntsAre ys ((ps.take i).map lowK) ∧ nw = [(pen, penO c g st pl t1 t2 t3 n), (c, listOf vs.toArray nc), (s₁.heap.objs.size + 1, oc)]) ?_ ?_ ?_
      · exact ⟨.nil, rfl⟩
      · rintro i v ys nw I oI C oC D m₂ h tk E' hi' ⟨c, uu, hc, rfl⟩ hyl ⟨hys, rfl⟩ hC hx F N off ne
        k_fold
        have hk : ps[i]? = some (c.toNat : Int) := by rw [← r7]; exact KBw.ints_get hc
        walk_at "go"
        · show LCg.CompEnd _ _ _ _ _ _ _ _ _ _ _ _ _ _
          rename Fr _ _ _ _ => F5
          rename News _ _ _ _ => N5
          rename _ ∨ _ ∨ _ => q
          refine LCg.CompEnd.intro F5 N5 _ (fun _ h => .tail _ h) off trivial ⟨?_, rfl⟩
          rw [take_snoc lowK hk, low_in (by omega) (by omega)]
          exact hys.append (.cons _ _ .nil)
        · show LCg.CompEnd _ _ _ _ _ _ _ _ _ _ _ _ _ _
          rename Fr _ _ _ _ => F5
          rename News _ _ _ _ => N5
          rename ¬ (_ ∨ _ ∨ _) => q
          refine LCg.CompEnd.intro F5 N5 _ (fun _ h => .tail _ h) off trivial ⟨?_, rfl⟩
          rw [take_snoc lowK hk, low_not (part_in r3 r8 hk) q]
          exact hys.append (.cons _ _ .nil)
      · rintro ys nw hyl ⟨hys, rfl⟩
        walk_at "go"
        rename_i D h tk F1 N1 o1'
        rw [List.take_of_length_le (by omega)] at hys
        have hin := low_kba (part_kba r7)
        have hyl2 := hys.length
        k_dflt (refine KBa.make_K F1 N1 (by rfl) (News.isList N1 (List.mem_cons_self)) hys hin (by rw [List.length_map]; omega) ?_)
        intro h3 t3' k3 F3 N3 _
        have hsb := KBa.ints_make hin
        generalize hg : byteArr (ps.map lowK) = sb at *
        walk_at "go"
        (try dsimp only)
        k_dflt (refine execsS_any ?_; walk_at "go")
        refine SrcI.intro (IterOf.bytes (by rfl)) (by k_asm) (by k_asm) (by rw [PySem.sizeLine_eq]; omega) ?_
        intro gg2
        refine comp_inv (fun i ys2 nw => StrsAre ys2 ((ps.take i).map chrK) ∧ nw = [(D, LCg.lst ys), (pen, penO c g st pl t1 t2 t3 n), (c, listOf vs.toArray nc), (s₁.heap.objs.size + 1, oc)]) ?_ ?_ ?_
        · exact ⟨.nil, rfl⟩
        · rintro i v ys2 nw I oI C oC D2 m₂ h tk E' hi' ⟨c2, uu, hc2, rfl⟩ hyl9 ⟨hys2, rfl⟩ hC hx F N off ne
          k_fold
          have hk : ps[i]? = some (c2.toNat : Int) := by rw [← r7]; exact KBw.ints_get hc2
          have hc9 := c2.toNat_lt
          walk_at "go"
          show LCg.CompEnd _ _ _ _ _ _ _ _ _ _ _ _ _ _
          rename Fr _ _ _ _ => F5
          rename News _ _ _ _ => N5
          refine LCg.CompEnd.intro F5 N5 _ (fun _ h => h) off trivial ⟨?_, rfl⟩
          rw [take_snoc chrK hk]
          exact hys2.append' (.cons _ _ .nil)
        · rintro ys2 nw hyl9 ⟨hys2, rfl⟩
          walk_at "go"
          rename_i D2 h tk F1 N1 o1'
          rw [List.take_of_length_le (by omega)] at hys2
          k_dflt (refine join_listW (items := ys2.toArray) (ys := ps.map chrK) (News.isList N1 (List.mem_cons_self)) (by simpa using hys2) (by decide) (by simp only [List.length_map, chr_sum]; omega) ?_)
          intro t9 k9
          rw [join_chr]
          walk_at "go"
          (try dsimp only)
          have h256 := part_kba r7
          k_dflt (refine execsS_any ?_; walk_at "go")
          · exfalso
            rename KBw.bInts _ = List.map lowK ps => hQ
            rename (_ != _) = true => q
            rw [bne_bytes (hQ.trans hsb.symm)] at q
            cases q
          have hsl : sb.size = ps.length := by rw [← KBw.ints_length, hsb, List.length_map]
          refine SrcI.intro (IterOf.bytes (by rfl)) (by k_asm) (by k_asm) (by rw [PySem.sizeLine_eq]; omega) ?_
          intro gg3
          refine comp_inv (fun i ys3 nw => StrsAre ys3 (((ps.map lowK).take i).map chrK) ∧ nw = [(D2, LCg.lst ys2), (D, LCg.lst ys), (pen, penO c g st pl t1 t2 t3 n), (c, listOf vs.toArray nc), (s₁.heap.objs.size + 1, oc)]) ?_ ?_ ?_
          · exact ⟨.nil, rfl⟩
          · rintro i v ys3 nw I oI C oC D3 m₂ h tk E' hi' ⟨c2, uu, hc2, rfl⟩ hyl9 ⟨hys3, rfl⟩ hC hx F N off ne
            k_fold
            have hk : (ps.map lowK)[i]? = some (c2.toNat : Int) := by rw [← hsb]; exact KBw.ints_get hc2
            have hc9 := c2.toNat_lt
            walk_at "go"
            show LCg.CompEnd _ _ _ _ _ _ _ _ _ _ _ _ _ _
            rename Fr _ _ _ _ => F5
            rename News _ _ _ _ => N5
            refine LCg.CompEnd.intro F5 N5 _ (fun _ h => h) off trivial ⟨?_, rfl⟩
            rw [take_snoc chrK hk]
            exact hys3.append' (.cons _ _ .nil)
          · rintro ys3 nw hyl9 ⟨hys3, rfl⟩
            walk_at "go"
            rename_i D3 h tk F1 N1 o1'
            rw [List.take_of_length_le (by rw [List.length_map]; omega)] at hys3
            k_dflt (refine join_listW (items := ys3.toArray) (ys := (ps.map lowK).map chrK) (News.isList N1 (List.mem_cons_self)) (by simpa using hys3) (by decide) (by rw [chr_sum]; simp only [List.length_map]; omega) ?_)
            intro t9 k9
            rw [join_chr]
            walk_at "go"
            · exfalso
              rename (_ != _) = true => q
              rw [bne_self_eq_false] at q
              cases q
            rename Fr _ _ _ _ => F6
            rename News _ _ _ _ => N6
            (try dsimp only)
            refine execsS_nil ?_
            (try dsimp only)
            exact LawP5.intro (ks := ks) (fr_base5 rfl rfl rfl F6) (fun p hp => N6 p (.tail _ (.tail _ (.tail _ hp)))) hc hp hd' hsb ⟨x5, y2, y4⟩
    clear hc hp hd' x5 y2 y4 F N
    intro s' z9; refine z9 _ ?_; clear z9; intro h tk pen c oc b pb sb ks ps i0 e g st pl vs ns nc n tp ts tt t1 t2 t3 m0 F N hc hp hd' hsb x5 y2 y4
    refine cutS 2 (LawP6 520 s₁) ?_ ?_
    · simp only [List.drop_succ_cons, List.drop_zero, List.take_succ_cons, List.take_zero]
      have ⟨r1, r2, r3, r4, r5, r6, r7, r8⟩ := hd'
      have ⟨q1, q2, q3, q4, q5, q6, q7, q8⟩ := hp
      have hpl := sg_len r4 r5 r6
      rw [← r8] at hpl
      have h256 := part_kba r7
      k_dflt (refine execsS_any ?_; walk_at "go")
      (try dsimp only)
      k_dflt (refine execsS_any ?_; walk_at "go")
      · rename KBw.bInts _ = rep _ _ _ _ => hr9
        have hr8 := rep_a_len (n := ps.length + 1) (l := ps) (Nat.le_succ _)
        rename Fr _ _ _ _ => F6
        rename News _ _ _ _ => N6
        (try dsimp only)
        refine execsS_nil ?_
        (try dsimp only)
        exact LawP6.intro (ks := ks) (fr_base6 rfl rfl rfl rfl F6) N6 hc ⟨q1, q2, by assumption, by assumption, by assumption, by assumption, by omega, by omega⟩ hd' hsb hr9 (Nat.le_trans (Nat.le_of_eq hr8) (by omega)) ⟨x5, y2, y4⟩
      · rename Fr _ _ _ _ => F6
        rename News _ _ _ _ => N6
        (try dsimp only)
        refine execsS_nil ?_
        (try dsimp only)
        exact LawP6.intro (ks := ks) (fr_base6 rfl rfl rfl rfl F6) N6 hc ⟨q1, q2, by assumption, by assumption, by assumption, by assumption, by omega, by omega⟩ hd' hsb wH (by omega) ⟨x5, y2, y4⟩
    clear hc hp hd' x5 y2 y4 F N hsb
    intro s' z9; refine z9 _ ?_; clear z9; intro h tk pen c oc b pb sb qb ks ps qs i0 e g st pl vs ns nc n tp ts tt tq t1 t2 t3 m0 F N hc hp hd' hsb hqb hql x5 y2 y4
    refine cutS 1 (LawP5 520 s₁) ?_ ?_
    · simp only [List.drop_succ_cons, List.drop_zero, List.take_succ_cons, List.take_zero]
      have ⟨r1, r2, r3, r4, r5, r6, r7, r8⟩ := hd'
      have hpl := sg_len r4 r5 r6
      rw [← r8] at hpl
      k_dflt (refine execsS_any ?_; walk_at "go")
      have hp14 : ps.length ≤ 14 := by omega
      have hql' : qs.length ≤ 28 := hql
      have hbl : qb.size = qs.length := by rw [← hqb, KBw.ints_length]
      refine SrcI.intro (IterOf.bytes (by rfl)) (by k_asm) (by k_asm) (by rw [PySem.sizeLine_eq]; omega) ?_
      intro gg
      refine comp_inv (fun i ys nw => IntsAre ys ((qs.take i).map lowK) ∧ nw = [(pen, penO c g st pl t1 t2 t3 n), (c, listOf vs.toArray nc), (s₁.heap.objs.size + 1, oc)]) ?_ ?_ ?_
      · exact ⟨.nil, rfl⟩
      · rintro i v ys nw I oI C oC D m₂ h tk E' hi' ⟨c2, uu, hc2, rfl⟩ hyl ⟨hys, rfl⟩ hC hx F N off ne
        k_fold
        have hk : qs[i]? = some (c2.toNat : Int) := by rw [← hqb]; exact KBw.ints_get hc2
        walk_at "go"
        · show LCg.CompEnd _ _ _ _ _ _ _ _ _ _ _ _ _ _
          rename Fr _ _ _ _ => F5
          rename News _ _ _ _ => N5
          refine LCg.CompEnd.intro F5 N5 _ (fun _ h => h) off trivial ⟨?_, rfl⟩
          rw [take_snoc lowK hk, low_in (by assumption) (by assumption)]
          exact hys.append (.cons _ _ .nil)
        · show LCg.CompEnd _ _ _ _ _ _ _ _ _ _ _ _ _ _
          rename Fr _ _ _ _ => F5
          rename News _ _ _ _ => N5
          refine LCg.CompEnd.intro F5 N5 _ (fun _ h => h) off trivial ⟨?_, rfl⟩
          rw [take_snoc lowK hk, low_hi (by assumption)]
          exact hys.append (.cons _ _ .nil)
        · show LCg.CompEnd _ _ _ _ _ _ _ _ _ _ _ _ _ _
          rename Fr _ _ _ _ => F5
          rename News _ _ _ _ => N5
          refine LCg.CompEnd.intro F5 N5 _ (fun _ h => h) off trivial ⟨?_, rfl⟩
          rw [take_snoc lowK hk, low_lo (by assumption)]
          exact hys.append (.cons _ _ .nil)
      · rintro ys nw hyl ⟨hys, rfl⟩
        walk_at "go"
        rename_i D h tk F1 N1 o1'
        rw [List.take_of_length_le (by omega)] at hys
        have hin := low_kba (part_kba hqb)
        have hyl2 := hys.length
        k_dflt (refine KBa.make_K F1 N1 (by rfl) (News.isList N1 (List.mem_cons_self)) hys hin (by rw [List.length_map]; omega) ?_)
        intro h3 t3' k3 F3 N3 _
        have hsq := KBa.ints_make hin
        generalize hg : byteArr (qs.map lowK) = rb at *
        walk_at "go"
        · exfalso
          rename (decide _ != _) = true => q
          rw [bytes_eqb, hsb, hsq, bne_self_eq_false] at q
          cases q
        · rename Fr _ _ _ _ => F6
          rename News _ _ _ _ => N6
          (try dsimp only)
          refine execsS_nil ?_
          (try dsimp only)
          exact LawP5.intro (ks := ks) (fr_base5 rfl rfl rfl F6) (fun p hp => N6 p (.tail _ hp)) hc hp hd' hsb ⟨x5, y2, y4⟩
    clear hc hp hd' x5 y2 y4 F N hsb hqb hql
    intro s' z9; refine z9 _ ?_; clear z9; intro h tk pen c oc b pb sb ks ps i0 e g st pl vs ns nc n tp ts tt t1 t2 t3 m0 F N hc hp hd' hsb x5 y2 y4
    refine cutS 1 (LawP5 520 s₁) ?_ ?_
    · simp only [List.drop_succ_cons, List.drop_zero, List.take_succ_cons, List.take_zero]
      have ⟨r1, r2, r3, r4, r5, r6, r7, r8⟩ := hd'
      have hpl := sg_len r4 r5 r6
      rw [← r8] at hpl
      have h256 := part_kba r7
      have h256u := up_kba h256
      have hup := up_low ps
      have hul : (ps.map upK).length = ps.length := List.length_map _
      k_dflt (refine execsS_any ?_; walk_at "go")
      · exfalso
        rename (_ != _) = true => q
        rw [← hup, bne_self_eq_false] at q
        cases q
      · rename Fr _ _ _ _ => F6
        rename News _ _ _ _ => N6
        (try dsimp only)
        refine execsS_nil ?_
        (try dsimp only)
        exact LawP5.intro (ks := ks) (fr_base5 rfl rfl rfl F6) N6 hc hp hd' hsb ⟨x5, y2, y4⟩
    clear hc hp F N hsb
    intro s' z9; refine z9 _ ?_; clear z9; intro h tk pen c oc b pb sb ks ps i0 e g st pl vs ns nc n tp ts tt t1 t2 t3 m0 F N hc hp hd' hsb x5 y2 y4
    refine cutS 2 (LawP9 s₁) ?_ ?_
    · simp only [List.drop_succ_cons, List.drop_zero, List.take_succ_cons, List.take_zero]
      have ⟨r1, r2, r3, r4, r5, r6, r7, r8⟩ := hd'
      have hpl := sg_len r4 r5 r6
      rw [← r8] at hpl
      have h256 := part_kba r7
      have hp14 : ps.length ≤ 14 := by omega
      have hbl : pb.size = ps.length := by rw [← r7, KBw.ints_length]
      k_dflt (refine execsS_any ?_; walk_at "go")
      refine LCt.CompSrcT.range (n := ps.length) (by rfl) (by k_asm) (by k_asm) (by assumption) (small_n (by omega)) (size_n _) (by rw [PySem.sizeLine_eq]; omega) ?_
      intro gg
      refine compT_inv (fun i ys nw => BeyJ ps i ys ∧ nw = [(pen, penO c g st pl t1 t2 t3 n), (c, listOf vs.toArray nc), (s₁.heap.objs.size + 1, oc)]) ⟨BeyJ.zero _, rfl⟩ ?_ ?_
      · rintro i v ys nw I oI C oC D m₂ h tk E' hi' ⟨t9, rfl⟩ ⟨hys, rfl⟩ hC hx F N off ne
        k_fold
        obtain ⟨k, hk⟩ : ∃ k, ps[i]? = some k := ⟨_, List.getElem?_eq_getElem hi'⟩
        rw [Int.zero_add] at hx
        walk_at "go"
        · show LCg.CompEnd _ _ _ _ _ _ _ _ _ _ _ _ _ _
          rename Fr _ _ _ _ => F5
          rename News _ _ _ _ => N5
          rename 127 < _ => q
          rw [Int.toNat_natCast, List.getD_eq_getElem?_getD, hk, Option.getD_some] at q
          exact LCg.CompEnd.intro F5 N5 _ (fun _ h => h) off trivial ⟨hys.yes hk q, rfl⟩
        · show LCg.CompEnd _ _ _ _ _ _ _ _ _ _ _ _ _ _
          rename Fr _ _ _ _ => F5
          rename News _ _ _ _ => N5
          rename ¬ 127 < _ => q
          rw [Int.toNat_natCast, List.getD_eq_getElem?_getD, hk, Option.getD_some] at q
          exact LCg.CompEnd.intro F5 N5 _ (fun _ h => h) off trivial ⟨hys.no hk q, rfl⟩
      · rintro ys nw ⟨hys, rfl⟩
        cases hfi : ps.findIdx? (fun k => decide (127 < k)) with
        | none =>
          obtain rfl := hys.none hfi
          walk_at "go"
          (try dsimp only)
          k_dflt (refine execsS_any ?_; walk_at "go")
          k_dflt (refine' hearda_h r7 hp14 _ _ _ _ _ _ _ _ _ _ _ _ _ _ _ K0 ?Fq3 ?Xq3 ?Nq3 ?Tq3 ?Kq3 ?Dq3 ?uq3 ?_; (case Fq3 => k_asm); (case Xq3 => k_asm); (case Nq3 => k_asm); (case Tq3 => k_asm); (case Kq3 => exact rfl); (case Dq3 => ktr_room); (case uq3 => ktr_units))
          intro tr
          rw [hfi]
          intro h6 tk6 F6 N6 _
          (try dsimp only)
          walk_at "go"
          · exfalso
            rename (_ != _) = true => q
            rw [bne_self_eq_false] at q
            cases q
          · k_dflt (refine' heardt_h h256 hp14 _ _ _ _ _ _ _ _ _ _ _ _ _ _ _ K0 ?Fq4 ?Xq4 ?Nq4 ?Tq4 ?Kq4 ?Dq4 ?uq4 ?_; (case Fq4 => k_asm); (case Xq4 => k_asm); (case Nq4 => k_asm); (case Tq4 => k_asm); (case Kq4 => exact rfl); (case Dq4 => ktr_room); (case uq4 => ktr_units))
            intro tr2
            rw [hfi]
            (try dsimp only)
            intro r9 h7 tk7 F7 N7 hR7
            walk_at "go"
            · exfalso
              rename (_ != _) = true => q
              rw [bne_bytes (hR7.trans r7.symm)] at q
              cases q
            · skip
              rename Fr _ _ _ _ => F8
              (try dsimp only)
              refine execsS_nil ?_
              (try dsimp only)
              exact LawP9.intro F8
        | some j =>
          obtain ⟨tj, zs, rfl, hzs⟩ := hys.some hfi
          walk_at "go"
          (try dsimp only)
          k_dflt (refine execsS_any ?_; walk_at "go")
          k_dflt (refine' hearda_h r7 hp14 _ _ _ _ _ _ _ _ _ _ _ _ _ _ _ K0 ?Fq5 ?Xq5 ?Nq5 ?Tq5 ?Kq5 ?Dq5 ?uq5 ?_; (case Fq5 => k_asm); (case Xq5 => k_asm); (case Nq5 => k_asm); (case Tq5 => k_asm); (case Kq5 => exact rfl); (case Dq5 => ktr_room); (case uq5 => ktr_units))
          intro tr
          rw [hfi]
          intro h6 tk6 F6 N6 _
          (try dsimp only)
          walk_at "go"
          · exfalso
            rename _ ≠ _ => q
            exact q rfl
          · k_dflt (refine' heardt_h h256 hp14 _ _ _ _ _ _ _ _ _ _ _ _ _ _ _ K0 ?Fq6 ?Xq6 ?Nq6 ?Tq6 ?Kq6 ?Dq6 ?uq6 ?_; (case Fq6 => k_asm); (case Xq6 => k_asm); (case Nq6 => k_asm); (case Tq6 => k_asm); (case Kq6 => exact rfl); (case Dq6 => ktr_room); (case uq6 => ktr_units))
            intro tr2
            rw [hfi]
            (try dsimp only)
            intro h7 tk7 F7 N7 _
            walk_at "go"
            · exfalso
              rename _ ≠ _ => q
              exact q rfl
            · skip
              rename Fr _ _ _ _ => F8
              (try dsimp only)
              refine execsS_nil ?_
              (try dsimp only)
              exact LawP9.intro F8
    intro s' z9; refine z9 _ ?_; clear z9; intro h tk m0 F
    · simp only [List.drop_succ_cons, List.drop_zero]
      have N : News s₁.heap s₁.heap.objs.size h [] := fun _ hp => nomatch hp
      k_dflt (refine execsS_any ?_; walk_at "go")
      k_dflt (refine' Call.use ?Bq7 ?Fq7 ?Xq7 ?Nq7 ?Tq7 ?Kq7 ?Dq7 ?uq7 (num_u (ks := List.replicate 21 57) (U := ?Uq7) (hx1 := ?a1q7) (hx := ?a4q7) (hb := ?a3q7) (hi := ?b1q7) (he := ?b2q7) (he2 := ?b3q7) (hl := ?l1q7)) ?_; (case Nq7 => k_asm); (case Bq7 => k_asm); (case Fq7 => k_asm); (case Xq7 => k_asm); (case Tq7 => k_asm); (case Kq7 => exact rfl); (case Dq7 => ktr_room); (case uq7 => ktr_units); (case a1q7 => k_mem); (case Uq7 => k_updF); (case a4q7 => k_ne); (case a3q7 => exact rfl); (case b1q7 => exact Int.le_refl 0); (case b2q7 => exact Int.natCast_nonneg _); (case b3q7 => exact Int.le_refl _); (case l1q7 => decide))
      refine ⟨fun t i' ti' h' tk' F' N' hn => absurd hn.2.1 (by decide), fun i' ti' h' tk' F' N' hn => ?_⟩
      clear hn
      (try dsimp only)
      walk_at "go"
      k_dflt (refine' Call.use ?Bq8 ?Fq8 ?Xq8 ?Nq8 ?Tq8 ?Kq8 ?Dq8 ?uq8 (num_u (ks := List.replicate 20 57 ++ [120]) (U := ?Uq8) (hx1 := ?a1q8) (hx := ?a4q8) (hb := ?a3q8) (hi := ?b1q8) (he := ?b2q8) (he2 := ?b3q8) (hl := ?l1q8)) ?_; (case Nq8 => k_asm); (case Bq8 => k_asm); (case Fq8 => k_asm); (case Xq8 => k_asm); (case Tq8 => k_asm); (case Kq8 => exact rfl); (case Dq8 => ktr_room); (case uq8 => ktr_units); (case a1q8 => k_mem); (case Uq8 => k_updF); (case a4q8 => k_ne); (case a3q8 => exact rfl); (case b1q8 => exact Int.le_refl 0); (case b2q8 => exact Int.natCast_nonneg _); (case b3q8 => exact Int.le_refl _); (case l1q8 => decide))
      refine ⟨fun t i' ti' h' tk' F' N' hn => ?_, fun i' ti' h' tk' F' N' hn => absurd hn.1 (by decide)⟩
      clear hn
      (try dsimp only)
      walk_at "go"
      rename Fr _ _ _ _ => F9
      exact GoodW.toG (law_true (by decide +kernel) F9.keep hg rfl)
  · exact law_true rfl (fun _ _ e => e) hg rfl
end
end Mine

theorem PySem.Challenge.cw_no0362_01_holds : PySem.Challenge.rw_no0362_01.Holds := by
  exact Mine.law_holds
