import PyProof.Rows.All
import Wide.All
import OpenK.AllK
import Wide.FinOn
import Lean
import PySem.Challenge.RW_on0021_01
open PySem PySem.W PyProof.Rows PySem.Calls
set_option Elab.async false
set_option maxRecDepth 100000
set_option linter.all false
set_option rowWalk.seconds 0
namespace Mine
/-! contexts in which no decoder runs below -/
def isDec : Code → Bool
  | .builtin id _ => (["bytearray.__contains__", "bytearray.__mod__", "bytearray.__rmod__", "_struct.pack_into.held", "bytearray.find.held"] : List String).contains id || Builtin.Bytes.decodersThatHold.contains id
  | _ => false
def Cln (l : List (Code × Pos)) : Prop := ∀ x ∈ l, isDec x.1 = false
abbrev nev : Value → Shared → Prop := fun _ _ => False
def wpC {α : Type} (M : Model) (A : Around) (t : Sem α) (Q : α → Shared → Prop) (s : Shared) : Prop :=
  ∀ Γ p, Γ.In A → isDec Γ.code = false → Cln Γ.below → Sem.wp M Γ t (fun a _ s' => Q a s') (fun _ _ _ => False) p s
/-- the end of a thread, from the clean contexts alone: the caller's own is one -/
theorem thread_endsC {prog : Program} {w : World} {t : Sem PySem.Fin} {s : Shared} {R : Result → Shared → Prop} (hreg : s.asleep)
    (h : wpC (model prog w) callerA t (fun fin s' => ∃ f, fin = .done f ∧ (R (.ok f) s' ∧ leftWithCleanup s'.gens = false)) s) :
    ∃ n r s' s'', runN (denote table) prog w n s ⟨t, .builtin "claim.caller" {}, default, []⟩ = .halted (outcomeOf r) s' ∧
      schedN (denote table) prog w n (.single s ⟨t, .builtin "claim.caller" {}, default, []⟩) = .halted (outcomeOf r) s' ∧ s'.forget = s''.forget ∧ R r s'' := by
  have h0 : Sem.wp (model prog w) ⟨.builtin "claim.caller" {}, none, none, [], none⟩ t (Sem.finPost (model prog w) ⟨.builtin "claim.caller" {}, none, none, [], none⟩ fun r s' => R r s' ∧ leftWithCleanup s'.gens = false) (fun e _ s' => R (.error e) s' ∧ leftWithCleanup s'.gens = false) default s := by
    refine Sem.wp_mono _ _ t (fun fin p' s' h' => ?_) (fun _ _ _ h' => h'.elim) default s (h _ default caller_in (by decide +kernel) (fun x hx => by cases hx))
    obtain ⟨f, rfl, hf⟩ := h'
    exact hf
  obtain ⟨n, r, s₁, s₂, hs, hn, hfo, hR⟩ := wp_halts_full (M := model prog w) (R := R) hreg h0
  exact ⟨n, r, s₂, s₁, hn, hs, hfo, hR⟩
theorem callFromC {c : ClaimW} {tree : List Value → Sem PySem.Fin} {w : World} {s : Shared} {free : Addr → Prop} {gens : Prop} {kept : Heap → Prop} (hz : s.asleep) (hgens : s.gens = #[])
    (hspec : ∀ args, c.pre args = true → WData.layableAll args = true → ∀ ord : List DictEntry → List DictEntry, (∀ l, (ord l).Perm l) →
      ∃ vs s₁, layAllW c.records (classAt s.heap) w.params ord args s = some (vs, s₁) ∧
        wpC (model c.prog w) callerA (tree vs) (fun fin s' => ∃ f, fin = .done f ∧ (c.Ends s args vs s₁ (.ok f) s' ∧ s'.os = s.os ∧ AllBare s'.gens ∧ kept s'.heap)) s₁) :
    c.CallFrom (fun vs => ⟨tree vs, .builtin "claim.caller" {}, default, []⟩) w free gens kept s := by
  intro args hpre hlay ord hord
  obtain ⟨vs, s₁, hlaid, hcode⟩ := hspec args hpre hlay ord hord
  have hal := layAllW_rest _ _ _ hlaid
  obtain ⟨k, r, s', s'', hrun, hsched, hfo, hcase, hos, hkp⟩ := thread_endsC (prog := c.prog) (w := w) (t := tree vs) (s := s₁)
    (R := fun r s' => c.Ends s args vs s₁ r s' ∧ s'.os = s.os ∧ kept s'.heap) (Shared.asleep_of_life hal.2.2.2 hz)
    (fun Γ p a1 a2 a3 => Sem.wp_mono _ _ _ (by
      rintro fin _ s' ⟨f, e, h1, h2, h3, h4⟩
      exact ⟨f, e, ⟨h1, h2, h4⟩, leftWithCleanup_false_of_bare h3⟩) (fun _ _ _ x => x) p _ (hcode Γ p a1 a2 a3))
  obtain ⟨eh, _, _, eo, _⟩ := Shared.forget_eq hfo
  have hcase := hcase.congr eh
  have hkp : kept s'.heap := by first | exact eh ▸ hkp | (rw [eh] at hkp; exact hkp) | (rw [← eh] at hkp; exact hkp)
  rw [← eo] at hos
  have hlife : s'.heap.life = s.heap.life := (runN_life _ _ _ hrun).trans hal.2.2.2
  refine ⟨vs, s₁, hlaid, k, _, s', hsched, ?_, (fun _ i x hx => by rw [hgens] at hx; simp at hx), hkp, by rw [hlife], Shared.rest_eq hos⟩
  rcases hcase with ⟨v, rfl, d1, d2, d3, d4, d5⟩ | ⟨e, ob, cls, rfl, d1, d2, d3, d4, d5⟩
  · exact .inl ⟨v, rfl, d1, d2, d3, fun b o y _ => d4 b o y, d5⟩
  · exact .inr ⟨e, ob, cls, rfl, d1, d2, d3, d4, fun b o y _ => d5 b o y⟩
/-- the walk that is left, in clean contexts -/
abbrev WalkC (q : Program) (loose : List Str) (XP : (Str → Option Value) → Heap → Prop) (YP : World → Heap → Prop) (r : RowW) (d : DefRec) (kwd : List (Str × Expr)) : Prop :=
  ∀ (w : World) (s₀ s₁ : Shared) (mg mb : Str → Option Value), Ground q loose r.records XP w s₀ mg mb s₁.heap → YP w s₁.heap → ∀ (a : Addr) (o : Obj) (pm cd doc dV kV : Value), s₁.heap.get? a = some o →
    o.data = .func { docDef d.name d.params d.body d.scope pm cd doc with defaults := dV, kwdefaults := kV } → s₁.heap.CodeRec cd d.name → Dflts mg s₁.heap d.params kwd dV kV → mg d.name = some (.ref a) → s₁.gens = #[] →
    ∀ (args : List WData) (vals : List Value) (as : List Addr), r.claim.pre args = true → WData.layableAll args = true → ReadsAllW r.records (classAt s₀.heap) s₁.heap vals args as → WellAll w.params s₁.heap vals args → (∀ a ∈ as, (a == sysModules) = false) →
      wpC (model r.prog w) callerA (PySem.call (.ref a) vals) (fun v s' => GoodWG r.claim (classAt s₀.heap) (ExcName.means s₀.heap) args s₁ (.ok (.ret v)) s') s₁
theorem open_anyC {r : RowW} {tree : List Value → Sem PySem.Fin} {q : Program} {loose defs kps : List Str} {writes : Bool} {Xt : Shared → Bool} {XP : (Str → Option Value) → Heap → Prop} {α : Type} {Yf : Shared → α} {Ya : World → α} {YP : World → Heap → Prop} {N : Nat}
    (left : LeftO r.prog q loose Xt Yf Ya N) (hY : ∀ w s, Yf s = Ya w → YP w s.heap) (hYk : ∀ w h h', YP w h → (∀ b o, h.get? b = some o → h'.get? b = some o) → YP w h') (hX : ∀ s, Xt s = true → XP (s.heap.nsMap mainGlobals) s.heap) (hXk : ∀ mg h h', XP mg h → (∀ b o, h.get? b = some o → h'.get? b = some o) → XP mg h')
    (hRf : ∀ s, Xt s = true → RecFacts r.records s.heap) (hwr : (!writes || r.records.isEmpty) = true) (ok : (chainsOk q && opensWell r.prog && (frees r && r.within.isEmpty)) = true) (hb : r.prog.bare) (hw : r.promised)
    (ht : ∀ vs (w : World) (s : Shared) mg f (Q : PySem.Fin → Shared → Prop), s.heap.Ns mainGlobals mg → mg r.name = some f → wpC (model r.prog w) callerA (PySem.call f vs) (fun v s' => Q (.done (.ret v)) s') s → wpC (model r.prog w) callerA (tree vs) Q s)
    (pin : ∀ w s, s.heap.isNs mainGlobals = true → Ground q loose [] XP w s (s.heap.nsMap mainGlobals) (s.heap.nsMap builtinsNs) s.heap → ∀ n ∈ defs, isTheDefsW r.prog s.heap n)
    (call : ∀ (w : World) (s₀ s₁ : Shared) (mg mb : Str → Option Value), Ground q loose r.records XP w s₀ mg mb s₁.heap → YP w s₁.heap → ∀ (args : List WData) (vs : List Value) (as : List Addr),
      r.claim.pre args = true → WData.layableAll args = true → Laid r.records w s₀ s₁ args vs as → sysModules < s₀.heap.objs.size → ∃ f, mg r.name = some f ∧
        wpC (model r.prog w) callerA (PySem.call f vs) (fun v s' => GoodWG r.claim (classAt s₀.heap) (ExcName.means s₀.heap) args s₁ (.ok (.ret v)) s') s₁) : r.claim.HoldsOpenBy (fun vs => ⟨tree vs, .builtin "claim.caller" {}, default, []⟩) defs kps writes := by
  obtain ⟨ok, k5⟩ := Bool.and_eq_true_iff.mp ok
  obtain ⟨hch, o1⟩ := Bool.and_eq_true_iff.mp ok
  obtain ⟨k5, k6⟩ := Bool.and_eq_true_iff.mp k5
  obtain ⟨hsame, hu, ha, hap, hm⟩ := frees_parts k5
  refine ⟨⟨hb, o1, by show r.makers.map _ = []; rw [hm]; rfl⟩, hw.witness, fun w => ⟨(left.behind hX hch w).1, fun s' hs' => ?_⟩⟩
  obtain ⟨s₀, hf, hg0, s, hT, hz, hgens, hg, G00, y⟩ := (left.behind (XP := fun mg h => XP mg h ∧ RecFacts r.records h) (fun s hs => ⟨hX s hs, hRf s hs⟩) hch w).2 s' hs'
  have G0 : Ground q loose [] XP w s (s.heap.nsMap mainGlobals) (s.heap.nsMap builtinsNs) s.heap := ⟨G00.T, G00.B, G00.D, G00.TE, G00.TD, G00.W, G00.X.1, G00.cls, G00.has, G00.apart, G00.once, G00.K⟩
  have RF := G00.X.2
  have hT' := hT
  refine ⟨s₀, hf, hg0, s, hT, pin w s hg G0, RF.1, RF.2.1, ?_⟩
  have hgens : s.gens = #[] := Array.eq_empty_of_size_eq_zero (beq_iff_eq.mp hgens)
  have G : Ground q loose r.records XP w s _ _ s.heap := RF.ground G0
  refine callFromC (c := r.claim) hz hgens fun args hpre hlay ord hord => ?_
  obtain ⟨⟨vs, s₁⟩, hlaid⟩ := Option.isSome_iff_exists.mp (layAllW_isSome (P := w.params) (ord := ord) G.has args r.args s (pre_splitW hpre).1)
  have keeps := layAllW_keeps _ _ _ hlaid
  have hal := layAllW_rest _ _ _ hlaid
  obtain ⟨as, hrd, hin, hold⟩ := reads_layAllW hord _ _ _ hlaid hlay s₁.heap (fun _ _ e => e)
  have L : Laid r.records w s s₁ args vs as := ⟨⟨ord, hord, hlaid⟩, hrd, hin, hold, keeps, hal.1.trans hgens, hal.2.2.1⟩
  have G₁ := G.keeps hXk keeps
  obtain ⟨f, hf, h⟩ := call w s s₁ _ _ G₁ (hYk _ _ _ (hY w s y) keeps) args vs as hpre hlay L G.low
  have hi := ident_freeW hu ha hap
  have hwi : r.claim.within = [] := List.isEmpty_iff.mp k6
  refine ⟨vs, s₁, hlaid, ht vs w s₁ _ f _ G₁.T.g hf fun Γ p a1 a2 a3 => Sem.wp_mono _ _ _ (fun v _ s' g => ?_) (fun _ _ _ x => x) p _ (h Γ p a1 a2 a3)⟩
  have z := g.laid (c := r.claim) hsame hwi hi L
  exact ⟨_, rfl, z.1, z.2.1, z.2.2, fun q => ⟨namesKept_of hT' hg kps keeps g.2.1.old, noTable hwr q⟩⟩
/-- the head of an open row, from the walk in clean contexts -/
theorem PySem.W.holds_open {r : OpenRow} {q : Program} {loose : List Str} {Xt : Shared → Bool} {XP : (Str → Option Value) → Heap → Prop} {α : Type} {Yf : Shared → α} {Ya : World → α} {YP : World → Heap → Prop} {d : DefRec} {kwd : List (Str × Expr)} {N : Nat}
    (left : LeftO r.prog q loose Xt Yf Ya N) (hY : ∀ w s, Yf s = Ya w → YP w s.heap) (hYk : ∀ w h h', YP w h → (∀ b o, h.get? b = some o → h'.get? b = some o) → YP w h')
    (hX : ∀ s, Xt s = true → XP (s.heap.nsMap mainGlobals) s.heap) (hXk : ∀ mg h h', XP mg h → (∀ b o, h.get? b = some o → h'.get? b = some o) → XP mg h')
    (hdef : defOf q r.name = some (d, kwd)) (hp : r.prog.theDef r.name = some (d.params, d.body, d.scope)) (hk : kwWritten? d.params.kwonlyargs d.params.kw_defaults = some kwd) (hRf : ∀ s, Xt s = true → RecFacts r.records s.heap) (hwr : (!r.writes || r.records.isEmpty) = true)
    (k1 : r.wellSaid = true) (ok : (chainsOk q && opensWell r.prog && (frees r.toRowW && r.within.isEmpty)) = true) (hb : r.prog.bare) (hw : r.toRowW.promised)
    (call : WalkC q loose XP YP r.toRowW d kwd) : r.Holds := by
  refine ⟨k1, hw, open_anyC (r := r.toRowW) (tree := fun vs => do match ← nsGet mainNs r.name with
      | some f => do ret (← PySem.call f vs)
      | none => unsupported "claim.caller:no-such-global") left hY hYk hX hXk hRf hwr ok hb hw
    (fun vs w s mg f Q hg hf h Γ p a1 a2 a3 => ?_)
    (fun w s hg G n hn => ?_) fun w s₀ s₁ mg mb G Y args vs as hpre hlay L low => ?_⟩
  · show Sem.wp _ _ (nsGet mainNs r.name >>= _) _ _ p s
    rw [Sem.wp_bind']
    refine wpAny_nsGet (M := model r.prog w) (A := callerA) (E := fun _ _ => False) (Q := fun g s' => ∀ Γ p, Γ.In callerA → isDec Γ.code = false → Cln Γ.below → Sem.wp (model r.prog w) Γ (match g with
      | some f => do ret (← PySem.call f vs)
      | none => unsupported "claim.caller:no-such-global") (fun a _ s' => Q a s') (fun _ _ _ => False) p s') hg ?_ Γ p a1 |> fun z => Sem.wp_mono _ _ _ (fun g p' s' k => k Γ p' a1 a2 a3) (fun _ _ _ x => x) p s z
    rw [hf]
    intro Γ p a1 a2 a3
    show Sem.wp _ _ (PySem.call f vs >>= _) _ _ p s
    rw [Sem.wp_bind']
    exact Sem.wp_mono _ _ _ (fun _ _ _ x => x) (fun _ _ _ x => x) p s (h Γ p a1 a2 a3)
  · obtain rfl : n = r.name := by split at hn <;> simp_all
    exact pinned_of_view hg G hdef hp hk
  · obtain ⟨a, o, pm, cd, doc, dV, kV, h1, h2, h3, h4, h5⟩ := G.fn hdef
    exact ⟨.ref a, h1, call w s₀ s₁ mg mb G Y a o pm cd doc dV kV h2 h3 h4 h5 (defOf_name hdef ▸ h1) L.gens args vs as hpre hlay L.reads L.well (L.low low)⟩
/-! the objects that the walk reads; the defs' bodies are the row's own -/
abbrev pL : Program := (PySem.Challenge.rw_on0021_01.row).toRowW.prog
def nthS : List Stmt → Nat → Stmt
  | [], _ => .Pass default
  | s :: _, 0 => s
  | _ :: r, n + 1 => nthS r n
def fnObj (st : Stmt) {n : Str} {p : Arguments} {b : List Stmt} {ds : List Expr} {r : Option Expr} {tps : List TypeParam} {sc : Scope} {tsc : Option Scope} {bd : Str} {ps : Pos} (_h : st = .FunctionDef n p b ds r tps sc tsc bd ps) (pm : Value) (cd : Addr) : Obj :=
  { cls := Value.type "function", data := Data.func { name := n, qualname := n, params := p, body := .stmts b, scope := sc, globals := 3, closure := [], defaults := Value.none, kwdefaults := Value.none, pyModule := pm, code := Value.ref cd } }
noncomputable def K9 : Params → Frag := fun P =>
  List.cons (nat_lit 3, { cls := Value.type "dict", data := Data.dict #[{ hash := PyData.keyHash P (Str.ofString "__name__"), key := Value.str (Str.ofString "__name__") 165, val := Value.str (Str.ofString "law_on0021_01") 582 }, { hash := PyData.keyHash P (Str.ofString "__doc__"), key := Value.str (Str.ofString "__doc__") 166, val := Value.none }, { hash := PyData.keyHash P (Str.ofString "__package__"), key := Value.str (Str.ofString "__package__") 167, val := Value.none }, { hash := PyData.keyHash P (Str.ofString "__loader__"), key := Value.str (Str.ofString "__loader__") 168, val := Value.builtin "__main__.__loader__#opaque" }, { hash := PyData.keyHash P (Str.ofString "__spec__"), key := Value.str (Str.ofString "__spec__") 169, val := Value.none }, { hash := PyData.keyHash P (Str.ofString "__annotations__"), key := Value.str (Str.ofString "__annotations__") 170, val := Value.ref 6 }, { hash := PyData.keyHash P (Str.ofString "__builtins__"), key := Value.str (Str.ofString "__builtins__") 171, val := Value.ref 4 }, { hash := PyData.keyHash P (Str.ofString "__file__"), key := Value.str (Str.ofString "__file__") 173, val := Value.str (Str.ofString "/claim/cut.py") 172 }, { hash := PyData.keyHash P (Str.ofString "__cached__"), key := Value.str (Str.ofString "__cached__") 174, val := Value.none }, { hash := PyData.keyHash P (Str.ofString "ChanError"), key := Value.str (Str.ofString "ChanError") 220, val := Value.ref 32 }, { hash := PyData.keyHash P (Str.ofString "WordFault"), key := Value.str (Str.ofString "WordFault") 236, val := Value.ref 45 }, { hash := PyData.keyHash P (Str.ofString "WRONG_RUNE"), key := Value.str (Str.ofString "WRONG_RUNE") 240, val := Value.int 65533 239 }, { hash := PyData.keyHash P (Str.ofString "LAST_RUNE"), key := Value.str (Str.ofString "LAST_RUNE") 242, val := Value.int 1114111 241 }, { hash := PyData.keyHash P (Str.ofString "FIRST_HALF"), key := Value.str (Str.ofString "FIRST_HALF") 244, val := Value.int 55296 243 }, { hash := PyData.keyHash P (Str.ofString "LAST_HALF"), key := Value.str (Str.ofString "LAST_HALF") 246, val := Value.int 57343 245 }, { hash := PyData.keyHash P (Str.ofString "LONG_HEADS"), key := Value.str (Str.ofString "LONG_HEADS") 256, val := Value.ref 51 }, { hash := PyData.keyHash P (Str.ofString "is_right_rune"), key := Value.str (Str.ofString "is_right_rune") 263, val := Value.ref 58 }, { hash := PyData.keyHash P (Str.ofString "octets_of_rune"), key := Value.str (Str.ofString "octets_of_rune") 269, val := Value.ref 63 }, { hash := PyData.keyHash P (Str.ofString "KEYWORDS"), key := Value.str (Str.ofString "KEYWORDS") 297, val := Value.ref 64 }, { hash := PyData.keyHash P (Str.ofString "ALL_SIGNS"), key := Value.str (Str.ofString "ALL_SIGNS") 345, val := Value.ref 65 }, { hash := PyData.keyHash P (Str.ofString "ENDING_WORDS"), key := Value.str (Str.ofString "ENDING_WORDS") 355, val := Value.ref 66 }, { hash := PyData.keyHash P (Str.ofString "SMALL_LETTERS"), key := Value.str (Str.ofString "SMALL_LETTERS") 357, val := Value.str (Str.ofString "abcdefghijklmnopqrstuvwxyz") 356 }, { hash := PyData.keyHash P (Str.ofString "GREAT_LETTERS"), key := Value.str (Str.ofString "GREAT_LETTERS") 359, val := Value.str (Str.ofString "ABCDEFGHIJKLMNOPQRSTUVWXYZ") 358 }, { hash := PyData.keyHash P (Str.ofString "FIGURE_SIGNS"), key := Value.str (Str.ofString "FIGURE_SIGNS") 361, val := Value.str (Str.ofString "0123456789") 360 }, { hash := PyData.keyHash P (Str.ofString "NAME_BEGINS"), key := Value.str (Str.ofString "NAME_BEGINS") 365, val := Value.str (Str.ofString "abcdefghijklmnopqrstuvwxyzABCDEFGHIJKLMNOPQRSTUVWXYZ_") 364 }, { hash := PyData.keyHash P (Str.ofString "NAME_SIGNS"), key := Value.str (Str.ofString "NAME_SIGNS") 367, val := Value.str (Str.ofString "abcdefghijklmnopqrstuvwxyzABCDEFGHIJKLMNOPQRSTUVWXYZ_0123456789") 366 }, { hash := PyData.keyHash P (Str.ofString "BLANK_SIGNS"), key := Value.str (Str.ofString "BLANK_SIGNS") 369, val := Value.str (Str.ofString " \t\x0d\n") 368 }, { hash := PyData.keyHash P (Str.ofString "MOST_FIGURES"), key := Value.str (Str.ofString "MOST_FIGURES") 371, val := Value.int 100 370 }, { hash := PyData.keyHash P (Str.ofString "PREFIX_BASES"), key := Value.str (Str.ofString "PREFIX_BASES") 381, val := Value.ref 67 }, { hash := PyData.keyHash P (Str.ofString "SHORT_ESCAPES"), key := Value.str (Str.ofString "SHORT_ESCAPES") 406, val := Value.ref 68 }, { hash := PyData.keyHash P (Str.ofString "LONG_ESCAPES"), key := Value.str (Str.ofString "LONG_ESCAPES") 416, val := Value.ref 69 }, { hash := PyData.keyHash P (Str.ofString "run_behind"), key := Value.str (Str.ofString "run_behind") 425, val := Value.ref 76 }, { hash := PyData.keyHash P (Str.ofString "remark_behind"), key := Value.str (Str.ofString "remark_behind") 434, val := Value.ref 83 }, { hash := PyData.keyHash P (Str.ofString "blanks_behind"), key := Value.str (Str.ofString "blanks_behind") 445, val := Value.ref 90 }, { hash := PyData.keyHash P (Str.ofString "figure_worth"), key := Value.str (Str.ofString "figure_worth") 453, val := Value.ref 97 }, { hash := PyData.keyHash P (Str.ofString "number_parts"), key := Value.str (Str.ofString "number_parts") 461, val := Value.ref 104 }, { hash := PyData.keyHash P (Str.ofString "read_number"), key := Value.str (Str.ofString "read_number") 474, val := Value.ref 111 }, { hash := PyData.keyHash P (Str.ofString "figures_read"), key := Value.str (Str.ofString "figures_read") 488, val := Value.ref 118 }, { hash := PyData.keyHash P (Str.ofString "read_escape"), key := Value.str (Str.ofString "read_escape") 500, val := Value.ref 125 }, { hash := PyData.keyHash P (Str.ofString "plain_rune"), key := Value.str (Str.ofString "plain_rune") 509, val := Value.ref 132 }, { hash := PyData.keyHash P (Str.ofString "read_quoted"), key := Value.str (Str.ofString "read_quoted") 521, val := Value.ref 139 }, { hash := PyData.keyHash P (Str.ofString "read_raw"), key := Value.str (Str.ofString "read_raw") 532, val := Value.ref 146 }, { hash := PyData.keyHash P (Str.ofString "read_rune"), key := Value.str (Str.ofString "read_rune") 543, val := Value.ref 153 }, { hash := PyData.keyHash P (Str.ofString "read_sign"), key := Value.str (Str.ofString "read_sign") 552, val := Value.ref 160 }, { hash := PyData.keyHash P (Str.ofString "read_word"), key := Value.str (Str.ofString "read_word") 563, val := Value.ref 167 }, { hash := PyData.keyHash P (Str.ofString "ends_line"), key := Value.str (Str.ofString "ends_line") 570, val := Value.ref 174 }, { hash := PyData.keyHash P (Str.ofString "word_rows"), key := Value.str (Str.ofString "word_rows") 581, val := Value.ref 181 }, { hash := PyData.keyHash P (Str.ofString "_law_pool"), key := Value.str (Str.ofString "_law_pool") 594, val := Value.ref 188 }, { hash := PyData.keyHash P (Str.ofString "_law_take"), key := Value.str (Str.ofString "_law_take") 603, val := Value.ref 195 }, { hash := PyData.keyHash P (Str.ofString "_law_one"), key := Value.str (Str.ofString "_law_one") 611, val := Value.ref 202 }, { hash := PyData.keyHash P (Str.ofString "_law_word"), key := Value.str (Str.ofString "_law_word") 618, val := Value.ref 209 }, { hash := PyData.keyHash P (Str.ofString "_law_end"), key := Value.str (Str.ofString "_law_end") 625, val := Value.ref 216 }, { hash := PyData.keyHash P (Str.ofString "_law_rows"), key := Value.str (Str.ofString "_law_rows") 642, val := Value.ref 223 }, { hash := PyData.keyHash P (Str.ofString "law"), key := Value.str (Str.ofString "law") 648, val := Value.ref 228 }] 54 }) <|
  List.cons (nat_lit 48, { cls := Value.type "tuple", data := Data.seq #[Value.int 192 247, Value.int 223 248, Value.int 128 249] }) <|
  List.cons (nat_lit 49, { cls := Value.type "tuple", data := Data.seq #[Value.int 224 250, Value.int 239 251, Value.int 2048 252] }) <|
  List.cons (nat_lit 50, { cls := Value.type "tuple", data := Data.seq #[Value.int 240 253, Value.int 247 254, Value.int 65536 255] }) <|
  List.cons (nat_lit 51, { cls := Value.type "tuple", data := Data.seq #[Value.ref 48, Value.ref 49, Value.ref 50] }) <|
  List.cons (nat_lit 52, { cls := Value.type "tuple", data := Data.seq #[] }) <|
  List.cons (nat_lit 54, { cls := Value.type "tuple", data := Data.seq #[Value.str (Str.ofString "rune") 260] }) <|
  List.cons (nat_lit 55, { cls := Value.type "tuple", data := Data.seq #[] }) <|
  List.cons (nat_lit 57, { cls := Value.type "code", data := Data.fields #[Value.str (Str.ofString "is_right_rune") 257, Value.str (Str.ofString "is_right_rune") 258, Value.str (Str.ofString "/claim/cut.py") 259, Value.int 16 0, Value.int 1 0, Value.int 0 0, Value.int 0 0, Value.int 3 0, Value.ref 52, Value.bool true, Value.int 181 0, Value.ref 53, Value.none, Value.ref 54, Value.ref 55, Value.ref 56, Value.int 261 0, Value.int 16 0, Value.str (Str.ofString "/claim/cut.py") 262] }) <|
  List.cons (nat_lit 58, fnObj (nthS pL.main.body 9) rfl (Value.str (Str.ofString "chancore.texts") 237) 57) <|
  List.cons (nat_lit 59, { cls := Value.type "tuple", data := Data.seq #[] }) <|
  List.cons (nat_lit 62, { cls := Value.type "code", data := Data.fields #[Value.str (Str.ofString "octets_of_rune") 264, Value.str (Str.ofString "octets_of_rune") 265, Value.str (Str.ofString "/claim/cut.py") 266, Value.int 18 0, Value.int 1 0, Value.int 0 0, Value.int 0 0, Value.int 3 0, Value.ref 59, Value.bool true, Value.int 181 0, Value.ref 60, Value.none, Value.none, Value.none, Value.ref 61, Value.int 267 0, Value.int 18 0, Value.str (Str.ofString "/claim/cut.py") 268] }) <|
  List.cons (nat_lit 63, fnObj (nthS pL.main.body 10) rfl (Value.str (Str.ofString "chancore.texts") 237) 62) <|
  List.cons (nat_lit 64, { cls := Value.type "tuple", data := Data.seq #[Value.str (Str.ofString "break") 272, Value.str (Str.ofString "case") 273, Value.str (Str.ofString "chan") 274, Value.str (Str.ofString "const") 275, Value.str (Str.ofString "continue") 276, Value.str (Str.ofString "default") 277, Value.str (Str.ofString "defer") 278, Value.str (Str.ofString "else") 279, Value.str (Str.ofString "fallthrough") 280, Value.str (Str.ofString "for") 281, Value.str (Str.ofString "func") 282, Value.str (Str.ofString "go") 283, Value.str (Str.ofString "goto") 284, Value.str (Str.ofString "if") 285, Value.str (Str.ofString "\x69mport") 286, Value.str (Str.ofString "interface") 287, Value.str (Str.ofString "map") 288, Value.str (Str.ofString "package") 289, Value.str (Str.ofString "range") 290, Value.str (Str.ofString "return") 291, Value.str (Str.ofString "select") 292, Value.str (Str.ofString "struct") 293, Value.str (Str.ofString "switch") 294, Value.str (Str.ofString "type") 295, Value.str (Str.ofString "var") 296] }) <|
  List.cons (nat_lit 65, { cls := Value.type "tuple", data := Data.seq #[Value.str (Str.ofString "<<=") 298, Value.str (Str.ofString ">>=") 299, Value.str (Str.ofString "&^=") 300, Value.str (Str.ofString "...") 301, Value.str (Str.ofString "&&") 302, Value.str (Str.ofString "||") 303, Value.str (Str.ofString "<-") 304, Value.str (Str.ofString "++") 305, Value.str (Str.ofString "--") 306, Value.str (Str.ofString "==") 307, Value.str (Str.ofString "!=") 308, Value.str (Str.ofString "<=") 309, Value.str (Str.ofString ">=") 310, Value.str (Str.ofString ":=") 311, Value.str (Str.ofString "+=") 312, Value.str (Str.ofString "-=") 313, Value.str (Str.ofString "*=") 314, Value.str (Str.ofString "/=") 315, Value.str (Str.ofString "%=") 316, Value.str (Str.ofString "&=") 317, Value.str (Str.ofString "|=") 318, Value.str (Str.ofString "^=") 319, Value.str (Str.ofString "<<") 320, Value.str (Str.ofString ">>") 321, Value.str (Str.ofString "&^") 322, Value.str (Str.ofString "+") 323, Value.str (Str.ofString "-") 324, Value.str (Str.ofString "*") 325, Value.str (Str.ofString "/") 326, Value.str (Str.ofString "%") 327, Value.str (Str.ofString "&") 328, Value.str (Str.ofString "|") 329, Value.str (Str.ofString "^") 330, Value.str (Str.ofString "<") 331, Value.str (Str.ofString ">") 332, Value.str (Str.ofString "=") 333, Value.str (Str.ofString "!") 334, Value.str (Str.ofString "(") 335, Value.str (Str.ofString ")") 336, Value.str (Str.ofString "[") 337, Value.str (Str.ofString "]") 338, Value.str (Str.ofString "{") 339, Value.str (Str.ofString "}") 340, Value.str (Str.ofString ",") 341, Value.str (Str.ofString ";") 342, Value.str (Str.ofString ".") 343, Value.str (Str.ofString ":") 344] }) <|
  List.cons (nat_lit 66, { cls := Value.type "tuple", data := Data.seq #[Value.str (Str.ofString "break") 346, Value.str (Str.ofString "continue") 347, Value.str (Str.ofString "fallthrough") 348, Value.str (Str.ofString "return") 349, Value.str (Str.ofString "++") 350, Value.str (Str.ofString "--") 351, Value.str (Str.ofString ")") 352, Value.str (Str.ofString "]") 353, Value.str (Str.ofString "}") 354] }) <|
  List.cons (nat_lit 67, { cls := Value.type "dict", data := Data.dict #[{ hash := PyData.keyHash P (Str.ofString "0x"), key := Value.str (Str.ofString "0x") 372, val := Value.int 16 373 }, { hash := PyData.keyHash P (Str.ofString "0o"), key := Value.str (Str.ofString "0o") 374, val := Value.int 8 375 }, { hash := PyData.keyHash P (Str.ofString "0b"), key := Value.str (Str.ofString "0b") 376, val := Value.int 2 377 }] 3 }) <|
  List.cons (nat_lit 68, { cls := Value.type "dict", data := Data.dict #[{ hash := PyData.keyHash P (Str.ofString "a"), key := Value.str (Str.ofString "a") 382, val := Value.int 7 383 }, { hash := PyData.keyHash P (Str.ofString "b"), key := Value.str (Str.ofString "b") 384, val := Value.int 8 385 }, { hash := PyData.keyHash P (Str.ofString "f"), key := Value.str (Str.ofString "f") 386, val := Value.int 12 387 }, { hash := PyData.keyHash P (Str.ofString "n"), key := Value.str (Str.ofString "n") 388, val := Value.int 10 389 }, { hash := PyData.keyHash P (Str.ofString "r"), key := Value.str (Str.ofString "r") 390, val := Value.int 13 391 }, { hash := PyData.keyHash P (Str.ofString "t"), key := Value.str (Str.ofString "t") 392, val := Value.int 9 393 }, { hash := PyData.keyHash P (Str.ofString "v"), key := Value.str (Str.ofString "v") 394, val := Value.int 11 395 }, { hash := PyData.keyHash P (Str.ofString "\\"), key := Value.str (Str.ofString "\\") 396, val := Value.int 92 397 }] 8 }) <|
  List.cons (nat_lit 69, { cls := Value.type "dict", data := Data.dict #[{ hash := PyData.keyHash P (Str.ofString "x"), key := Value.str (Str.ofString "x") 407, val := Value.int 2 408 }, { hash := PyData.keyHash P (Str.ofString "u"), key := Value.str (Str.ofString "u") 409, val := Value.int 4 410 }, { hash := PyData.keyHash P (Str.ofString "U"), key := Value.str (Str.ofString "U") 411, val := Value.int 8 412 }] 3 }) <|
  List.cons (nat_lit 70, { cls := Value.type "tuple", data := Data.seq #[] }) <|
  List.cons (nat_lit 72, { cls := Value.type "tuple", data := Data.seq #[Value.str (Str.ofString "text") 420, Value.str (Str.ofString "at") 421, Value.str (Str.ofString "signs") 422] }) <|
  List.cons (nat_lit 73, { cls := Value.type "tuple", data := Data.seq #[] }) <|
  List.cons (nat_lit 75, { cls := Value.type "code", data := Data.fields #[Value.str (Str.ofString "run_behind") 417, Value.str (Str.ofString "run_behind") 418, Value.str (Str.ofString "/claim/cut.py") 419, Value.int 40 0, Value.int 3 0, Value.int 0 0, Value.int 0 0, Value.int 3 0, Value.ref 70, Value.bool true, Value.int 181 0, Value.ref 71, Value.none, Value.ref 72, Value.ref 73, Value.ref 74, Value.int 423 0, Value.int 40 0, Value.str (Str.ofString "/claim/cut.py") 424] }) <|
  List.cons (nat_lit 76, fnObj (nthS pL.main.body 25) rfl (Value.str (Str.ofString "chancore.words") 270) 75) <|
  List.cons (nat_lit 77, { cls := Value.type "tuple", data := Data.seq #[] }) <|
  List.cons (nat_lit 79, { cls := Value.type "tuple", data := Data.seq #[Value.str (Str.ofString "text") 429, Value.str (Str.ofString "at") 430, Value.str (Str.ofString "end") 431] }) <|
  List.cons (nat_lit 80, { cls := Value.type "tuple", data := Data.seq #[] }) <|
  List.cons (nat_lit 82, { cls := Value.type "code", data := Data.fields #[Value.str (Str.ofString "remark_behind") 426, Value.str (Str.ofString "remark_behind") 427, Value.str (Str.ofString "/claim/cut.py") 428, Value.int 44 0, Value.int 2 0, Value.int 0 0, Value.int 0 0, Value.int 3 0, Value.ref 77, Value.bool true, Value.int 181 0, Value.ref 78, Value.none, Value.ref 79, Value.ref 80, Value.ref 81, Value.int 432 0, Value.int 44 0, Value.str (Str.ofString "/claim/cut.py") 433] }) <|
  List.cons (nat_lit 83, fnObj (nthS pL.main.body 26) rfl (Value.str (Str.ofString "chancore.words") 270) 82) <|
  List.cons (nat_lit 84, { cls := Value.type "tuple", data := Data.seq #[] }) <|
  List.cons (nat_lit 86, { cls := Value.type "tuple", data := Data.seq #[Value.str (Str.ofString "text") 438, Value.str (Str.ofString "at") 439, Value.str (Str.ofString "broken") 440, Value.str (Str.ofString "begin") 441, Value.str (Str.ofString "end") 442] }) <|
  List.cons (nat_lit 87, { cls := Value.type "tuple", data := Data.seq #[] }) <|
  List.cons (nat_lit 89, { cls := Value.type "code", data := Data.fields #[Value.str (Str.ofString "blanks_behind") 435, Value.str (Str.ofString "blanks_behind") 436, Value.str (Str.ofString "/claim/cut.py") 437, Value.int 52 0, Value.int 2 0, Value.int 0 0, Value.int 0 0, Value.int 3 0, Value.ref 84, Value.bool true, Value.int 181 0, Value.ref 85, Value.none, Value.ref 86, Value.ref 87, Value.ref 88, Value.int 443 0, Value.int 52 0, Value.str (Str.ofString "/claim/cut.py") 444] }) <|
  List.cons (nat_lit 90, fnObj (nthS pL.main.body 27) rfl (Value.str (Str.ofString "chancore.words") 270) 89) <|
  List.cons (nat_lit 91, { cls := Value.type "tuple", data := Data.seq #[] }) <|
  List.cons (nat_lit 93, { cls := Value.type "tuple", data := Data.seq #[Value.str (Str.ofString "sign") 449, Value.str (Str.ofString "place") 450] }) <|
  List.cons (nat_lit 94, { cls := Value.type "tuple", data := Data.seq #[] }) <|
  List.cons (nat_lit 96, { cls := Value.type "code", data := Data.fields #[Value.str (Str.ofString "figure_worth") 446, Value.str (Str.ofString "figure_worth") 447, Value.str (Str.ofString "/claim/cut.py") 448, Value.int 66 0, Value.int 1 0, Value.int 0 0, Value.int 0 0, Value.int 3 0, Value.ref 91, Value.bool true, Value.int 181 0, Value.ref 92, Value.none, Value.ref 93, Value.ref 94, Value.ref 95, Value.int 451 0, Value.int 66 0, Value.str (Str.ofString "/claim/cut.py") 452] }) <|
  List.cons (nat_lit 97, fnObj (nthS pL.main.body 28) rfl (Value.str (Str.ofString "chancore.words") 270) 96) <|
  List.cons (nat_lit 98, { cls := Value.type "tuple", data := Data.seq #[] }) <|
  List.cons (nat_lit 100, { cls := Value.type "tuple", data := Data.seq #[Value.str (Str.ofString "word") 457, Value.str (Str.ofString "base") 458] }) <|
  List.cons (nat_lit 101, { cls := Value.type "tuple", data := Data.seq #[] }) <|
  List.cons (nat_lit 103, { cls := Value.type "code", data := Data.fields #[Value.str (Str.ofString "number_parts") 454, Value.str (Str.ofString "number_parts") 455, Value.str (Str.ofString "/claim/cut.py") 456, Value.int 69 0, Value.int 1 0, Value.int 0 0, Value.int 0 0, Value.int 3 0, Value.ref 98, Value.bool true, Value.int 181 0, Value.ref 99, Value.none, Value.ref 100, Value.ref 101, Value.ref 102, Value.int 459 0, Value.int 69 0, Value.str (Str.ofString "/claim/cut.py") 460] }) <|
  List.cons (nat_lit 104, fnObj (nthS pL.main.body 29) rfl (Value.str (Str.ofString "chancore.words") 270) 103) <|
  List.cons (nat_lit 105, { cls := Value.type "tuple", data := Data.seq #[] }) <|
  List.cons (nat_lit 107, { cls := Value.type "tuple", data := Data.seq #[Value.str (Str.ofString "text") 465, Value.str (Str.ofString "begin") 466, Value.str (Str.ofString "end") 467, Value.str (Str.ofString "base") 468, Value.str (Str.ofString "figures") 469, Value.str (Str.ofString "value") 470, Value.str (Str.ofString "sign") 471] }) <|
  List.cons (nat_lit 108, { cls := Value.type "tuple", data := Data.seq #[] }) <|
  List.cons (nat_lit 110, { cls := Value.type "code", data := Data.fields #[Value.str (Str.ofString "read_number") 462, Value.str (Str.ofString "read_number") 463, Value.str (Str.ofString "/claim/cut.py") 464, Value.int 76 0, Value.int 2 0, Value.int 0 0, Value.int 0 0, Value.int 3 0, Value.ref 105, Value.bool true, Value.int 181 0, Value.ref 106, Value.none, Value.ref 107, Value.ref 108, Value.ref 109, Value.int 472 0, Value.int 76 0, Value.str (Str.ofString "/claim/cut.py") 473] }) <|
  List.cons (nat_lit 111, fnObj (nthS pL.main.body 30) rfl (Value.str (Str.ofString "chancore.words") 270) 110) <|
  List.cons (nat_lit 112, { cls := Value.type "tuple", data := Data.seq #[] }) <|
  List.cons (nat_lit 114, { cls := Value.type "tuple", data := Data.seq #[Value.str (Str.ofString "text") 478, Value.str (Str.ofString "at") 479, Value.str (Str.ofString "many") 480, Value.str (Str.ofString "base") 481, Value.str (Str.ofString "spot") 482, Value.str (Str.ofString "figures") 483, Value.str (Str.ofString "value") 484, Value.str (Str.ofString "sign") 485] }) <|
  List.cons (nat_lit 115, { cls := Value.type "tuple", data := Data.seq #[] }) <|
  List.cons (nat_lit 117, { cls := Value.type "code", data := Data.fields #[Value.str (Str.ofString "figures_read") 475, Value.str (Str.ofString "figures_read") 476, Value.str (Str.ofString "/claim/cut.py") 477, Value.int 91 0, Value.int 5 0, Value.int 0 0, Value.int 0 0, Value.int 3 0, Value.ref 112, Value.bool true, Value.int 181 0, Value.ref 113, Value.none, Value.ref 114, Value.ref 115, Value.ref 116, Value.int 486 0, Value.int 91 0, Value.str (Str.ofString "/claim/cut.py") 487] }) <|
  List.cons (nat_lit 118, fnObj (nthS pL.main.body 31) rfl (Value.str (Str.ofString "chancore.words") 270) 117) <|
  List.cons (nat_lit 119, { cls := Value.type "tuple", data := Data.seq #[] }) <|
  List.cons (nat_lit 121, { cls := Value.type "tuple", data := Data.seq #[Value.str (Str.ofString "text") 492, Value.str (Str.ofString "at") 493, Value.str (Str.ofString "quote") 494, Value.str (Str.ofString "sign") 495, Value.str (Str.ofString "many") 496, Value.str (Str.ofString "value") 497] }) <|
  List.cons (nat_lit 122, { cls := Value.type "tuple", data := Data.seq #[] }) <|
  List.cons (nat_lit 124, { cls := Value.type "code", data := Data.fields #[Value.str (Str.ofString "read_escape") 489, Value.str (Str.ofString "read_escape") 490, Value.str (Str.ofString "/claim/cut.py") 491, Value.int 101 0, Value.int 3 0, Value.int 0 0, Value.int 0 0, Value.int 3 0, Value.ref 119, Value.bool true, Value.int 181 0, Value.ref 120, Value.none, Value.ref 121, Value.ref 122, Value.ref 123, Value.int 498 0, Value.int 101 0, Value.str (Str.ofString "/claim/cut.py") 499] }) <|
  List.cons (nat_lit 125, fnObj (nthS pL.main.body 32) rfl (Value.str (Str.ofString "chancore.words") 270) 124) <|
  List.cons (nat_lit 126, { cls := Value.type "tuple", data := Data.seq #[] }) <|
  List.cons (nat_lit 128, { cls := Value.type "tuple", data := Data.seq #[Value.str (Str.ofString "text") 504, Value.str (Str.ofString "at") 505, Value.str (Str.ofString "value") 506] }) <|
  List.cons (nat_lit 129, { cls := Value.type "tuple", data := Data.seq #[] }) <|
  List.cons (nat_lit 131, { cls := Value.type "code", data := Data.fields #[Value.str (Str.ofString "plain_rune") 501, Value.str (Str.ofString "plain_rune") 502, Value.str (Str.ofString "/claim/cut.py") 503, Value.int 117 0, Value.int 2 0, Value.int 0 0, Value.int 0 0, Value.int 3 0, Value.ref 126, Value.bool true, Value.int 181 0, Value.ref 127, Value.none, Value.ref 128, Value.ref 129, Value.ref 130, Value.int 507 0, Value.int 117 0, Value.str (Str.ofString "/claim/cut.py") 508] }) <|
  List.cons (nat_lit 132, fnObj (nthS pL.main.body 33) rfl (Value.str (Str.ofString "chancore.words") 270) 131) <|
  List.cons (nat_lit 133, { cls := Value.type "tuple", data := Data.seq #[] }) <|
  List.cons (nat_lit 135, { cls := Value.type "tuple", data := Data.seq #[Value.str (Str.ofString "text") 513, Value.str (Str.ofString "begin") 514, Value.str (Str.ofString "found") 515, Value.str (Str.ofString "at") 516, Value.str (Str.ofString "value") 517, Value.str (Str.ofString "is_octet") 518] }) <|
  List.cons (nat_lit 136, { cls := Value.type "tuple", data := Data.seq #[] }) <|
  List.cons (nat_lit 138, { cls := Value.type "code", data := Data.fields #[Value.str (Str.ofString "read_quoted") 510, Value.str (Str.ofString "read_quoted") 511, Value.str (Str.ofString "/claim/cut.py") 512, Value.int 122 0, Value.int 2 0, Value.int 0 0, Value.int 0 0, Value.int 3 0, Value.ref 133, Value.bool true, Value.int 181 0, Value.ref 134, Value.none, Value.ref 135, Value.ref 136, Value.ref 137, Value.int 519 0, Value.int 122 0, Value.str (Str.ofString "/claim/cut.py") 520] }) <|
  List.cons (nat_lit 139, fnObj (nthS pL.main.body 34) rfl (Value.str (Str.ofString "chancore.words") 270) 138) <|
  List.cons (nat_lit 140, { cls := Value.type "tuple", data := Data.seq #[] }) <|
  List.cons (nat_lit 142, { cls := Value.type "tuple", data := Data.seq #[Value.str (Str.ofString "text") 525, Value.str (Str.ofString "begin") 526, Value.str (Str.ofString "end") 527, Value.str (Str.ofString "found") 528, Value.str (Str.ofString "at") 529] }) <|
  List.cons (nat_lit 143, { cls := Value.type "tuple", data := Data.seq #[] }) <|
  List.cons (nat_lit 145, { cls := Value.type "code", data := Data.fields #[Value.str (Str.ofString "read_raw") 522, Value.str (Str.ofString "read_raw") 523, Value.str (Str.ofString "/claim/cut.py") 524, Value.int 134 0, Value.int 2 0, Value.int 0 0, Value.int 0 0, Value.int 3 0, Value.ref 140, Value.bool true, Value.int 181 0, Value.ref 141, Value.none, Value.ref 142, Value.ref 143, Value.ref 144, Value.int 530 0, Value.int 134 0, Value.str (Str.ofString "/claim/cut.py") 531] }) <|
  List.cons (nat_lit 146, fnObj (nthS pL.main.body 35) rfl (Value.str (Str.ofString "chancore.words") 270) 145) <|
  List.cons (nat_lit 147, { cls := Value.type "tuple", data := Data.seq #[] }) <|
  List.cons (nat_lit 149, { cls := Value.type "tuple", data := Data.seq #[Value.str (Str.ofString "text") 536, Value.str (Str.ofString "begin") 537, Value.str (Str.ofString "at") 538, Value.str (Str.ofString "value") 539, Value.str (Str.ofString "is_octet") 540] }) <|
  List.cons (nat_lit 150, { cls := Value.type "tuple", data := Data.seq #[] }) <|
  List.cons (nat_lit 152, { cls := Value.type "code", data := Data.fields #[Value.str (Str.ofString "read_rune") 533, Value.str (Str.ofString "read_rune") 534, Value.str (Str.ofString "/claim/cut.py") 535, Value.int 143 0, Value.int 2 0, Value.int 0 0, Value.int 0 0, Value.int 3 0, Value.ref 147, Value.bool true, Value.int 181 0, Value.ref 148, Value.none, Value.ref 149, Value.ref 150, Value.ref 151, Value.int 541 0, Value.int 143 0, Value.str (Str.ofString "/claim/cut.py") 542] }) <|
  List.cons (nat_lit 153, fnObj (nthS pL.main.body 36) rfl (Value.str (Str.ofString "chancore.words") 270) 152) <|
  List.cons (nat_lit 154, { cls := Value.type "tuple", data := Data.seq #[] }) <|
  List.cons (nat_lit 156, { cls := Value.type "tuple", data := Data.seq #[Value.str (Str.ofString "text") 547, Value.str (Str.ofString "at") 548, Value.str (Str.ofString "sign") 549] }) <|
  List.cons (nat_lit 157, { cls := Value.type "tuple", data := Data.seq #[] }) <|
  List.cons (nat_lit 159, { cls := Value.type "code", data := Data.fields #[Value.str (Str.ofString "read_sign") 544, Value.str (Str.ofString "read_sign") 545, Value.str (Str.ofString "/claim/cut.py") 546, Value.int 154 0, Value.int 2 0, Value.int 0 0, Value.int 0 0, Value.int 3 0, Value.ref 154, Value.bool true, Value.int 181 0, Value.ref 155, Value.none, Value.ref 156, Value.ref 157, Value.ref 158, Value.int 550 0, Value.int 154 0, Value.str (Str.ofString "/claim/cut.py") 551] }) <|
  List.cons (nat_lit 160, fnObj (nthS pL.main.body 37) rfl (Value.str (Str.ofString "chancore.words") 270) 159) <|
  List.cons (nat_lit 161, { cls := Value.type "tuple", data := Data.seq #[] }) <|
  List.cons (nat_lit 163, { cls := Value.type "tuple", data := Data.seq #[Value.str (Str.ofString "text") 556, Value.str (Str.ofString "at") 557, Value.str (Str.ofString "sign") 558, Value.str (Str.ofString "end") 559, Value.str (Str.ofString "kind") 560] }) <|
  List.cons (nat_lit 164, { cls := Value.type "tuple", data := Data.seq #[] }) <|
  List.cons (nat_lit 166, { cls := Value.type "code", data := Data.fields #[Value.str (Str.ofString "read_word") 553, Value.str (Str.ofString "read_word") 554, Value.str (Str.ofString "/claim/cut.py") 555, Value.int 159 0, Value.int 2 0, Value.int 0 0, Value.int 0 0, Value.int 3 0, Value.ref 161, Value.bool true, Value.int 181 0, Value.ref 162, Value.none, Value.ref 163, Value.ref 164, Value.ref 165, Value.int 561 0, Value.int 159 0, Value.str (Str.ofString "/claim/cut.py") 562] }) <|
  List.cons (nat_lit 167, fnObj (nthS pL.main.body 38) rfl (Value.str (Str.ofString "chancore.words") 270) 166) <|
  List.cons (nat_lit 168, { cls := Value.type "tuple", data := Data.seq #[] }) <|
  List.cons (nat_lit 170, { cls := Value.type "tuple", data := Data.seq #[Value.str (Str.ofString "word") 567] }) <|
  List.cons (nat_lit 171, { cls := Value.type "tuple", data := Data.seq #[] }) <|
  List.cons (nat_lit 173, { cls := Value.type "code", data := Data.fields #[Value.str (Str.ofString "ends_line") 564, Value.str (Str.ofString "ends_line") 565, Value.str (Str.ofString "/claim/cut.py") 566, Value.int 172 0, Value.int 1 0, Value.int 0 0, Value.int 0 0, Value.int 3 0, Value.ref 168, Value.bool true, Value.int 181 0, Value.ref 169, Value.none, Value.ref 170, Value.ref 171, Value.ref 172, Value.int 568 0, Value.int 172 0, Value.str (Str.ofString "/claim/cut.py") 569] }) <|
  List.cons (nat_lit 174, fnObj (nthS pL.main.body 39) rfl (Value.str (Str.ofString "chancore.words") 270) 173) <|
  List.cons (nat_lit 175, { cls := Value.type "tuple", data := Data.seq #[] }) <|
  List.cons (nat_lit 177, { cls := Value.type "tuple", data := Data.seq #[Value.str (Str.ofString "text") 574, Value.str (Str.ofString "found") 575, Value.str (Str.ofString "at") 576, Value.str (Str.ofString "broken") 577, Value.str (Str.ofString "word") 578] }) <|
  List.cons (nat_lit 178, { cls := Value.type "tuple", data := Data.seq #[] }) <|
  List.cons (nat_lit 180, { cls := Value.type "code", data := Data.fields #[Value.str (Str.ofString "word_rows") 571, Value.str (Str.ofString "word_rows") 572, Value.str (Str.ofString "/claim/cut.py") 573, Value.int 174 0, Value.int 1 0, Value.int 0 0, Value.int 0 0, Value.int 3 0, Value.ref 175, Value.bool true, Value.int 181 0, Value.ref 176, Value.none, Value.ref 177, Value.ref 178, Value.ref 179, Value.int 579 0, Value.int 174 0, Value.str (Str.ofString "/claim/cut.py") 580] }) <|
  List.cons (nat_lit 181, fnObj (nthS pL.main.body 40) rfl (Value.str (Str.ofString "chancore.words") 270) 180) <|
  List.cons (nat_lit 182, { cls := Value.type "tuple", data := Data.seq #[] }) <|
  List.cons (nat_lit 184, { cls := Value.type "tuple", data := Data.seq #[Value.str (Str.ofString "script") 587, Value.str (Str.ofString "k") 588, Value.str (Str.ofString "cell") 589, Value.str (Str.ofString "big") 590, Value.str (Str.ofString "blend") 591] }) <|
  List.cons (nat_lit 185, { cls := Value.type "tuple", data := Data.seq #[] }) <|
  List.cons (nat_lit 187, { cls := Value.type "code", data := Data.fields #[Value.str (Str.ofString "_law_pool") 584, Value.str (Str.ofString "_law_pool") 585, Value.str (Str.ofString "/claim/cut.py") 586, Value.int 188 0, Value.int 2 0, Value.int 0 0, Value.int 0 0, Value.int 3 0, Value.ref 182, Value.bool true, Value.int 181 0, Value.ref 183, Value.none, Value.ref 184, Value.ref 185, Value.ref 186, Value.int 592 0, Value.int 188 0, Value.str (Str.ofString "/claim/cut.py") 593] }) <|
  List.cons (nat_lit 188, fnObj (nthS pL.main.body 42) rfl (Value.str (Str.ofString "law_on0021_01") 582) 187) <|
  List.cons (nat_lit 189, { cls := Value.type "tuple", data := Data.seq #[] }) <|
  List.cons (nat_lit 191, { cls := Value.type "tuple", data := Data.seq #[Value.str (Str.ofString "source") 598, Value.str (Str.ofString "top") 599, Value.str (Str.ofString "figure") 600] }) <|
  List.cons (nat_lit 192, { cls := Value.type "tuple", data := Data.seq #[] }) <|
  List.cons (nat_lit 194, { cls := Value.type "code", data := Data.fields #[Value.str (Str.ofString "_law_take") 595, Value.str (Str.ofString "_law_take") 596, Value.str (Str.ofString "/claim/cut.py") 597, Value.int 193 0, Value.int 2 0, Value.int 0 0, Value.int 0 0, Value.int 3 0, Value.ref 189, Value.bool true, Value.int 181 0, Value.ref 190, Value.none, Value.ref 191, Value.ref 192, Value.ref 193, Value.int 601 0, Value.int 193 0, Value.str (Str.ofString "/claim/cut.py") 602] }) <|
  List.cons (nat_lit 195, fnObj (nthS pL.main.body 43) rfl (Value.str (Str.ofString "law_on0021_01") 582) 194) <|
  List.cons (nat_lit 196, { cls := Value.type "tuple", data := Data.seq #[] }) <|
  List.cons (nat_lit 198, { cls := Value.type "tuple", data := Data.seq #[Value.str (Str.ofString "source") 607, Value.str (Str.ofString "things") 608] }) <|
  List.cons (nat_lit 199, { cls := Value.type "tuple", data := Data.seq #[] }) <|
  List.cons (nat_lit 201, { cls := Value.type "code", data := Data.fields #[Value.str (Str.ofString "_law_one") 604, Value.str (Str.ofString "_law_one") 605, Value.str (Str.ofString "/claim/cut.py") 606, Value.int 200 0, Value.int 2 0, Value.int 0 0, Value.int 0 0, Value.int 3 0, Value.ref 196, Value.bool true, Value.int 181 0, Value.ref 197, Value.none, Value.ref 198, Value.ref 199, Value.ref 200, Value.int 609 0, Value.int 200 0, Value.str (Str.ofString "/claim/cut.py") 610] }) <|
  List.cons (nat_lit 202, fnObj (nthS pL.main.body 44) rfl (Value.str (Str.ofString "law_on0021_01") 582) 201) <|
  List.cons (nat_lit 203, { cls := Value.type "tuple", data := Data.seq #[] }) <|
  List.cons (nat_lit 205, { cls := Value.type "tuple", data := Data.seq #[Value.str (Str.ofString "source") 615] }) <|
  List.cons (nat_lit 206, { cls := Value.type "tuple", data := Data.seq #[] }) <|
  List.cons (nat_lit 208, { cls := Value.type "code", data := Data.fields #[Value.str (Str.ofString "_law_word") 612, Value.str (Str.ofString "_law_word") 613, Value.str (Str.ofString "/claim/cut.py") 614, Value.int 202 0, Value.int 1 0, Value.int 0 0, Value.int 0 0, Value.int 3 0, Value.ref 203, Value.bool true, Value.int 181 0, Value.ref 204, Value.none, Value.ref 205, Value.ref 206, Value.ref 207, Value.int 616 0, Value.int 202 0, Value.str (Str.ofString "/claim/cut.py") 617] }) <|
  List.cons (nat_lit 209, fnObj (nthS pL.main.body 45) rfl (Value.str (Str.ofString "law_on0021_01") 582) 208) <|
  List.cons (nat_lit 210, { cls := Value.type "tuple", data := Data.seq #[] }) <|
  List.cons (nat_lit 212, { cls := Value.type "tuple", data := Data.seq #[Value.str (Str.ofString "source") 622] }) <|
  List.cons (nat_lit 213, { cls := Value.type "tuple", data := Data.seq #[] }) <|
  List.cons (nat_lit 215, { cls := Value.type "code", data := Data.fields #[Value.str (Str.ofString "_law_end") 619, Value.str (Str.ofString "_law_end") 620, Value.str (Str.ofString "/claim/cut.py") 621, Value.int 204 0, Value.int 1 0, Value.int 0 0, Value.int 0 0, Value.int 3 0, Value.ref 210, Value.bool true, Value.int 181 0, Value.ref 211, Value.none, Value.ref 212, Value.ref 213, Value.ref 214, Value.int 623 0, Value.int 204 0, Value.str (Str.ofString "/claim/cut.py") 624] }) <|
  List.cons (nat_lit 216, fnObj (nthS pL.main.body 46) rfl (Value.str (Str.ofString "law_on0021_01") 582) 215) <|
  List.cons (nat_lit 217, { cls := Value.type "tuple", data := Data.seq #[] }) <|
  List.cons (nat_lit 219, { cls := Value.type "tuple", data := Data.seq #[Value.str (Str.ofString "source") 629, Value.str (Str.ofString "text") 630, Value.str (Str.ofString "due") 631, Value.str (Str.ofString "many") 632, Value.str (Str.ofString "turn") 633, Value.str (Str.ofString "is_ending") 634, Value.str (Str.ofString "step") 635, Value.str (Str.ofString "kind") 636, Value.str (Str.ofString "told") 637, Value.str (Str.ofString "end") 638, Value.str (Str.ofString "at") 639] }) <|
  List.cons (nat_lit 220, { cls := Value.type "tuple", data := Data.seq #[] }) <|
  List.cons (nat_lit 222, { cls := Value.type "code", data := Data.fields #[Value.str (Str.ofString "_law_rows") 626, Value.str (Str.ofString "_law_rows") 627, Value.str (Str.ofString "/claim/cut.py") 628, Value.int 206 0, Value.int 1 0, Value.int 0 0, Value.int 0 0, Value.int 3 0, Value.ref 217, Value.bool true, Value.int 181 0, Value.ref 218, Value.none, Value.ref 219, Value.ref 220, Value.ref 221, Value.int 640 0, Value.int 206 0, Value.str (Str.ofString "/claim/cut.py") 641] }) <|
  List.cons (nat_lit 223, fnObj (nthS pL.main.body 47) rfl (Value.str (Str.ofString "law_on0021_01") 582) 222) <|
  List.cons (nat_lit 224, { cls := Value.type "tuple", data := Data.seq #[] }) <|
  List.cons (nat_lit 227, { cls := Value.type "code", data := Data.fields #[Value.str (Str.ofString "law") 643, Value.str (Str.ofString "law") 644, Value.str (Str.ofString "/claim/cut.py") 645, Value.int 221 0, Value.int 1 0, Value.int 0 0, Value.int 0 0, Value.int 3 0, Value.ref 224, Value.bool true, Value.int 181 0, Value.ref 225, Value.none, Value.none, Value.none, Value.ref 226, Value.int 646 0, Value.int 221 0, Value.str (Str.ofString "/claim/cut.py") 647] }) <|
  List.cons (nat_lit 228, fnObj (nthS pL.main.body 48) rfl (Value.str (Str.ofString "law_on0021_01") 582) 227) <|
  []
def kas9 : List Addr := [3, 48, 49, 50, 51, 52, 54, 55, 57, 58, 59, 62, 63, 64, 65, 66, 67, 68, 69, 70, 72, 73, 75, 76, 77, 79, 80, 82, 83, 84, 86, 87, 89, 90, 91, 93, 94, 96, 97, 98, 100, 101, 103, 104, 105, 107, 108, 110, 111, 112, 114, 115, 117, 118, 119, 121, 122, 124, 125, 126, 128, 129, 131, 132, 133, 135, 136, 138, 139, 140, 142, 143, 145, 146, 147, 149, 150, 152, 153, 154, 156, 157, 159, 160, 161, 163, 164, 166, 167, 168, 170, 171, 173, 174, 175, 177, 178, 180, 181, 182, 184, 185, 187, 188, 189, 191, 192, 194, 195, 196, 198, 199, 201, 202, 203, 205, 206, 208, 209, 210, 212, 213, 215, 216, 217, 219, 220, 222, 223, 224, 227, 228]
/-! the head of the law: the top runs once under the kernel, on either side of the one row that it asks of the world -/
noncomputable def e11 : Obj := { cls := Value.type "tuple", data := Data.seq #[] }
def e12 : Obj := { cls := Value.none, data := Data.fields #[] }
def e13 : Obj := { cls := Value.type "code", data := Data.fields #[Value.str (Str.ofString "<module>") 182, Value.str (Str.ofString "<module>") 183,
          Value.str (Str.ofString "/claim/cut.py") 184, Value.int 1 0, Value.int 0 0, Value.int 0 0, Value.int 0 0,
          Value.int 0 0, Value.ref 11, Value.bool false, Value.int 181 0, Value.ref 12, Value.none, Value.none,
          Value.none, Value.none, Value.int 185 0, Value.int 1 0, Value.str (Str.ofString "/claim/cut.py") 186] }
def e14 : Obj := { cls := Value.type "frame", slots := #[some (Value.ref 13), some (Value.ref 3), some (Value.ref 3), none, some (Value.str (Str.ofString "__main__") 164), none, some (Value.ref 0)] }
noncomputable def tr0 (P : Params) : BT :=
  BT.node (boot_o_0 P)
    (BT.node (boot_o_1 P)
      (BT.node (boot_o_3 P) (BT.node (boot_o_7 P) BT.nil BT.nil) (BT.node e11 BT.nil BT.nil))
      (BT.node (boot_o_5 P) (BT.node (boot_o_9 P) BT.nil BT.nil) (BT.node e13 BT.nil BT.nil)))
    (BT.node (boot_o_2 P)
      (BT.node (boot_o_4 P) (BT.node (boot_o_8 P) BT.nil BT.nil) (BT.node e12 BT.nil BT.nil))
      (BT.node (boot_o_6 P) (BT.node (boot_o_10 P) BT.nil BT.nil) (BT.node e14 BT.nil BT.nil)))
noncomputable def sT (w : World) (os : OsState) : SharedT := { tree := tr0 w.params, n := 15, life := { }, gens := { toList := [] }, drawn := { }, toks := 187, os := os }
noncomputable def eL : Env := { scope := Module.scope (Program.main pL), locals := mainNs, globals := mainNs, cells := [], code := Value.ref 13, frame := some 14 }
noncomputable def cL : Code := Code.body (behindTheImports pL) eL
def q0 : Pos := { line := 0, col := 0, endLine := 0, endCol := 0 }
theorem pre_ok (w : World) (os : OsState) : topGo treeTable pL w 11 (some (.ref 6)) 12 { heap := boot_heap w.params, drawn := boot_drawn, toks := boot_toks, os := os } (topStub pL) =
  some ((sT w os).abs, { cur := denote treeTable cL, code := cL, pos := q0, stack := [topFrame q0] }) := by kernel_rfl
theorem block_ok (w : World) (os : OsState) : segRun treeTable pL w 11 (some (.ref 6)) 1 1 (sT w os).abs (blockOf (behindTheImports pL) eL cL q0 [topFrame q0]) = some (.next, (sT w os).abs, cL, q0) := by kernel_rfl
theorem size_ok (w : World) : ((boot_heap w.params).isNs mainGlobals && (#[] : Array GenState).size == 0, (boot_heap w.params).objs.size, (boot_heap w.params).nsMap mainGlobals "__annotations__") = (true, 11, some (.ref 6)) := by kernel_rfl
theorem open_eq : opening pL = plainProg pL.main.scope.names := by kernel_rfl
theorem fence_eq : ∀ s, fenceModules? pL s = some s := fun s => by kernel_rfl
noncomputable abbrev thr9 : Thread := piecesOf (behindTheImports pL) eL cL q0 [topFrame q0]
noncomputable def lookL {β : Type} (w : World) (X : Shared → β) (s : Shared) : Bool × β :=
  (staticsOk (importedModules pL.main.body) (boot_heap w.params) s.heap && namesBound pL s.heap && gensDone s && laidKept (boot_heap w.params) s.heap, X s)
theorem left_of_run {β : Type} {w : World} {X : Shared → β} {Y : β} {N : Nat} (hN : 4000 ≤ N)
    (h : ∀ os, (segRunT treeTable pL w 11 (some (.ref 6)) 1 1900 (sT w os) thr9).map (fun r => (r.1, r.2.2.1, (topRun treeTable pL w 11 (some (.ref 6)) 2 r.2.1.abs ⟨doneF .next, r.2.2.1, r.2.2.2, [topFrame q0]⟩).map (lookL w X))) = some (.next, cL, some (true, Y))) :
    (openEnds treeTable pL w N).map X = some Y := by
  obtain ⟨⟨hp, gs, d, k, os⟩, e, e'⟩ := Option.map_eq_some_iff.mp (boot_open (p := pL) (N := N) open_eq (Nat.ble_eq.mpr (by omega)) fence_eq w)
  obtain ⟨rfl, rfl, rfl, rfl⟩ : hp = boot_heap w.params ∧ gs = #[] ∧ d = boot_drawn ∧ k = boot_toks := by simpa using e'
  obtain ⟨⟨f, s', c, q⟩, h1, h2⟩ := Option.map_eq_some_iff.mp (h os)
  obtain ⟨rfl, h3⟩ := Prod.mk.inj h2
  obtain ⟨rfl, h4⟩ := Prod.mk.inj h3
  obtain ⟨s1, h5, h6⟩ := Option.map_eq_some_iff.mp h4
  obtain ⟨h7, rfl⟩ := Prod.mk.inj h6
  obtain ⟨z1, z2, z3⟩ : _ ∧ _ ∧ _ := by simpa only [Prod.mk.injEq] using size_ok w
  have r1 := piece_app (rest := []) (segRun_of h1) (piece_nil h5)
  rw [List.append_nil] at r1
  have r := go_top (pre_ok w os) (piece_block (block_ok w os) r1)
  have r2 := topRun_mono (N - (12 + (1 + (1900 + 2)))) _ _ _ _ r
  rw [show 12 + (1 + (1900 + 2)) + (N - (12 + (1 + (1900 + 2)))) = N by omega] at r2
  have t : topFrom treeTable pL w N ⟨boot_heap w.params, #[], boot_drawn, boot_toks, os⟩ = some s1 := by
    unfold topFrom
    dsimp only
    rw [z1, z2, z3]
    dsimp only
    rw [r2]
    show (match staticsOk (importedModules pL.main.body) (boot_heap w.params) s1.heap && namesBound pL s1.heap && gensDone s1 && laidKept (boot_heap w.params) s1.heap with | true => _ | false => _) = _
    rw [h7]
  unfold openEnds
  rw [e]
  show (topFrom treeTable pL w N _).map X = _
  rw [t]
  rfl
def keep9 : List Nat := [1, 2, 4, 5, 6, 7, 8, 9, 10, 12, 13, 14, 15, 16, 17, 18, 19, 20, 21, 22, 23, 24, 25, 26, 27, 28, 29, 30, 31, 32, 33, 34, 35, 36, 37, 38, 39, 40, 42, 43, 44, 45, 46, 47, 48]
noncomputable def viewL : Program := view pL keep9
def looseL : List Str := [Str.ofString "ChanError", Str.ofString "NAME_BEGINS", Str.ofString "NAME_SIGNS", Str.ofString "PREFIX_BASES", Str.ofString "SHORT_ESCAPES", Str.ofString "LONG_ESCAPES"]
def lvL : List (Str × WData) := [(Str.ofString "NAME_BEGINS", .str (Str.ofString "abcdefghijklmnopqrstuvwxyzABCDEFGHIJKLMNOPQRSTUVWXYZ_")), (Str.ofString "NAME_SIGNS", .str (Str.ofString "abcdefghijklmnopqrstuvwxyzABCDEFGHIJKLMNOPQRSTUVWXYZ_0123456789"))]
theorem kas_ok : ∀ P, kas9 = (K9 P).map (·.1) := fun P => by kernel_rfl
noncomputable def hook9 : Hook := kHook K9 kas9 kas_ok
noncomputable def Xt9 (s : Shared) : Bool := xlAt viewL lvL s && recOk (RowW.records PySem.Challenge.rw_on0021_01.row.toRowW) s
noncomputable def seen9 (s : Shared) := (openSeen viewL looseL (importedModules pL.main.body) Xt9 true s, hook9.obs s)
abbrev ask9 (w : World) (b : Bool) : World := w.withFollow "special-get-raises" b
theorem run_no (w : World) (os : OsState) : (PySem.W.Fast.tw10110043849684766642 PySem.W.Fast.tw14364793385576792824 pL (ask9 w false) 11 (some (.ref 6)) 1 1900 (sT (ask9 w false) os) thr9).map (fun r => (r.1, r.2.2.1, (topRun PySem.W.Fast.tw14364793385576792824 pL (ask9 w false) 11 (some (.ref 6)) 2 r.2.1.abs ⟨doneF .next, r.2.2.1, r.2.2.2, [topFrame q0]⟩).map (lookL (ask9 w false) seen9))) = some (.next, cL, some (true, (openGood viewL looseL, hook9.val (ask9 w false)))) := by kernel_rfl
theorem run_yes (w : World) (os : OsState) : (PySem.W.Fast.tw10110043849684766642 PySem.W.Fast.tw14364793385576792824 pL (ask9 w true) 11 (some (.ref 6)) 1 1900 (sT (ask9 w true) os) thr9).map (fun r => (r.1, r.2.2.1, (topRun PySem.W.Fast.tw14364793385576792824 pL (ask9 w true) 11 (some (.ref 6)) 2 r.2.1.abs ⟨doneF .next, r.2.2.1, r.2.2.2, [topFrame q0]⟩).map (lookL (ask9 w true) seen9))) = some (.next, cL, some (true, (openGood viewL looseL, hook9.val (ask9 w true)))) := by kernel_rfl
theorem left9 : LeftO pL viewL looseL Xt9 hook9.obs hook9.val 4000 := by
  refine byRow2 "special-get-raises" (fun w => ?_) (fun w => ?_)
  · refine left_of_run (X := seen9) (Nat.le_refl _) fun os => ?_
    have := run_no w os
    rw [← PySem.W.Fast.te10110043849684766642, ← PySem.W.Fast.te14364793385576792824] at this
    exact this
  · refine left_of_run (X := seen9) (Nat.le_refl _) fun os => ?_
    have := run_yes w os
    rw [← PySem.W.Fast.te10110043849684766642, ← PySem.W.Fast.te14364793385576792824] at this
    exact this
def dRec (st : Stmt) {n : Str} {p : Arguments} {b : List Stmt} {ds : List Expr} {r : Option Expr} {tps : List TypeParam} {sc : Scope} {tsc : Option Scope} {bd : Str} {ps : Pos} (_h : st = .FunctionDef n p b ds r tps sc tsc bd ps) : DefRec := { name := n, params := p, body := b, scope := sc, pos := ps }
def dL : DefRec := dRec (nthS pL.main.body 48) rfl
theorem said9 : OpenLaw.wellSaid PySem.Challenge.rw_on0021_01 = true := by kernel_rfl
theorem hd (call : WalkC viewL looseL (XL viewL lvL) hook9.says PySem.Challenge.rw_on0021_01.row.toRowW dL []) : PySem.Challenge.rw_on0021_01.Holds := by
  refine holds_law said9 fun said => ?_
  refine Mine.PySem.W.holds_open (q := viewL) (loose := looseL) (Xt := Xt9) (XP := XL viewL lvL) (Yf := hook9.obs) (Ya := hook9.val) (YP := hook9.says) (d := dL) (kwd := []) (N := 4000) left9 hook9.of hook9.keeps (fun s e => xl_of s (Bool.and_eq_true_iff.mp e).1) XL.keeps (by kernel_rfl) (by kernel_rfl) (by kernel_rfl) (fun s e => recFacts_of (Bool.and_eq_true_iff.mp e).2) (by kernel_rfl) said (by decide +kernel) ⟨rfl, rfl, rfl, rfl, rfl, by decide +kernel⟩ ?_ call
  w_witness2
theorem fill_all : PySem.Challenge.rw_on0021_01 = PySem.Challenge.rw_on0021_01 ∧ K9 = K9 := by
  k_fill
  exact ⟨rfl, rfl⟩
theorem fresh_base : True := by
  w_top off
  k_with_none
  trivial
/-- a call of the def at f, on the values vs, over a ledger: what it hands back and the ledger behind it -/
def Tel (prog : Program) (w : World) (f : Addr) (sz : Nat) (news : List (Addr × Obj)) (vs : List Value) (Post : Value → List (Addr × Obj) → Prop) : Prop :=
  ∀ (p : Program) (loose : List Str) (mean : ExcName → Option Value) (mg mb : Str → Option Value)
    (dp un : Nat) (gd : Option (List Code)) (cn : Str) (cs : Scope) (a : Addr) (ccd : Value) (cl : List (Str × Addr)) (outer : List Env) (A₀ : Around) (base h₀ : Heap) (L : Addr) (m : Str → Option Value) (s : Shared) (Q E : Value → Shared → Prop),
    Below A₀ base outer h₀ → Fr h₀ L s.heap m → (K9 w.params).In h₀ → News h₀ L s.heap news → Top p loose mean mg mb h₀ → cs.kind = .function → dp + sz < recursionLimit → un + 8 * sz < cLine →
    (∀ r news' h' tk', Fr h₀ L h' m → News h₀ L h' news' → Post r news' → Q r { s with heap := h', toks := tk' }) →
    wpAny (model prog w) (ktrTop dp un gd cn cs L a ccd cl outer) (call (.ref f) vs) Q E s
section
variable {prog : Program} {w : World} {f : Addr} {sz : Nat} {news : List (Addr × Obj)} {vs : List Value} {Post : Value → List (Addr × Obj) → Prop}
  {p : Program} {loose : List Str} {mean : ExcName → Option Value} {mg mb : Str → Option Value}
  {dp un : Nat} {gd : Option (List Code)} {cn : Str} {cs : Scope} {a : Addr} {ccd : Value} {cl : List (Str × Addr)} {outer : List Env} {A₀ : Around} {base h₀ : Heap} {L : Addr} {m : Str → Option Value} {s : Shared} {Q E : Value → Shared → Prop}
theorem Tel.use (C : Tel prog w f sz news vs Post) (B : Below A₀ base outer h₀) (F : Fr h₀ L s.heap m) (X : (K9 w.params).In h₀) (N : News h₀ L s.heap news) (T : Top p loose mean mg mb h₀) (hk : cs.kind = .function)
    (hdp : dp + sz < recursionLimit) (hun : un + 8 * sz < cLine)
    (ret : ∀ r news' h' tk', Fr h₀ L h' m → News h₀ L h' news' → Post r news' → Q r { s with heap := h', toks := tk' }) :
    wpAny (model prog w) (ktrTop dp un gd cn cs L a ccd cl outer) (call (.ref f) vs) Q E s :=
  C _ _ _ _ _ _ _ _ _ _ _ _ _ _ _ _ _ _ _ _ _ _ B F X N T hk hdp hun ret
end

theorem kst_put {h₀ h : Heap} {L : Addr} {m : Str → Option Value} {ps : List (Str × Value)} (F : Fr h₀ L h m) (hk : ∀ p ∈ ps, m p.1 = some p.2) : Fr h₀ L h (kstB m ps) := by
  have e : kstB m ps = m := funext fun z => kstB_eq hk fun _ => rfl
  rw [e]; exact F

theorem kst_ex {h₀ h : Heap} {L : Addr} {m : Str → Option Value} (ps : List (Str × Value)) (F : Fr h₀ L h m) (hk : ∀ p ∈ ps, m p.1 = some p.2) : ∃ u, Fr h₀ L h (kstB u ps) := ⟨m, kst_put F hk⟩

/-- where a run of signs ends -/
def rb (text signs : Str) (k : Int) : Int := k + (((text.cps.toList.drop k.toNat).takeWhile fun c => signs.cps.contains c).length : Int)
theorem toks_gen {M : Model} {A : Around} {X : Type} {t : Sem X} {Q : X → Shared → Prop} {E : Value → Shared → Prop} {hp : Heap} {gs : Array GenState} {dr : Drawn} {tk : Nat} {o : OsState} (h : ∀ tk, wpAny M A t Q E { heap := hp, gens := gs, drawn := dr, toks := tk, os := o }) : wpAny M A t Q E { heap := hp, gens := gs, drawn := dr, toks := tk, os := o } := h tk
def MwEnd {σ : Type} (h₀ : Heap) (L : Addr) (s : Shared) (Led : σ → List (Addr × Obj)) (ps : σ → List (Str × Value)) (P : σ → Prop) (μ : σ → Nat) (c : σ) (s₂ : Shared) : Prop :=
  ∃ (c' : σ) (h' : Heap) (tk : Nat) (m' : Str → Option Value) (news' : List (Addr × Obj)), s₂ = { s with heap := h', toks := tk } ∧ Fr h₀ L h' m' ∧ News h₀ L h' news' ∧ (∀ p ∈ Led c', p ∈ news') ∧ (∀ p ∈ ps c', m' p.1 = some p.2) ∧ P c' ∧ μ c' < μ c
def MwPost {σ : Type} (h₀ : Heap) (L : Addr) (s : Shared) (Led : σ → List (Addr × Obj)) (ps : σ → List (Str × Value)) (P : σ → Prop) (μ : σ → Nat) (Q : Flow → Shared → Prop) (c : σ) (f : Flow) (s₂ : Shared) : Prop :=
  match f with
  | .ret v => Q (.ret v) s₂
  | .brk => Q .next s₂
  | _ => MwEnd h₀ L s Led ps P μ c s₂
section
variable {prog : Program} {w : World} {A : Around} {E : Value → Shared → Prop} {Q : Flow → Shared → Prop} {s : Shared} {env : Env} {h₀ : Heap} {L : Addr}
theorem mw_end {σ : Type} {Led : σ → List (Addr × Obj)} {ps : σ → List (Str × Value)} {P : σ → Prop} {μ : σ → Nat} {c : σ} {m' : Str → Option Value} {h' : Heap} {tk : Nat} {news' : List (Addr × Obj)} (c' : σ)
    (F : Fr h₀ L h' m') (N : News h₀ L h' news') (hn : ∀ p ∈ Led c', p ∈ news') (hk : ∀ p ∈ ps c', m' p.1 = some p.2) (hp : P c') (hm : μ c' < μ c) :
    MwEnd h₀ L s Led ps P μ c { s with heap := h', toks := tk } := ⟨c', h', tk, m', news', rfl, F, N, hn, hk, hp, hm⟩
theorem mw_while {σ : Type} {test : Expr} {body : List Stmt} {pos : Pos} {m₀ : Str → Option Value} {news₀ : List (Addr × Obj)} (Led : σ → List (Addr × Obj)) (ps : σ → List (Str × Value)) (P : σ → Prop) (μ : σ → Nat) (c₀ : σ)
    (F : Fr h₀ L s.heap m₀) (N : News h₀ L s.heap news₀) (hn : ∀ p ∈ Led c₀, p ∈ news₀) (hk : ∀ p ∈ ps c₀, m₀ p.1 = some p.2) (hp : P c₀)
    (turn : ∀ (c : σ) (u : Str → Option Value) h tk, P c → Fr h₀ L h (kstB u (ps c)) → News h₀ L h (Led c) →
      wpAny (model prog w) A (isTrue test env (eval test env)) (fun b s₂ =>
        if b = true then wpAny (model prog w) A (execs body env) (MwPost h₀ L s Led ps P μ Q c) E s₂ else Q .next s₂) E { s with heap := h, toks := tk })
    (hE : PassesOwn (model prog w) A env E := by passes_own) :
    wpAny (model prog w) A (exec (.While test body [] pos) env) Q E s := by
  refine While_inv2 (fun n m nx => ∃ c : σ, nx = Led c ∧ μ c = n ∧ (∀ p ∈ ps c, m p.1 = some p.2) ∧ P c) F (fun p h => N p (hn p h)) ⟨c₀, rfl, rfl, hk, hp⟩ ?_ hE
  rintro n m₁ nx h tk F₁ N₁ ⟨c, rfl, rfl, h1, hp'⟩
  refine wpAny_mono (turn c m₁ h tk hp' (kst_put F₁ h1) N₁) (fun b s₂ p => ?_) fun _ _ x => x
  cases b with
  | false => simpa using p
  | true =>
    simp only [if_true] at p ⊢
    refine wpAny_mono p (fun f s₃ q => ?_) fun _ _ x => x
    have fin : MwEnd h₀ L s Led ps P μ c s₃ → ∃ h' tk m₂ news₂ n', s₃ = { s with heap := h', toks := tk } ∧ Fr h₀ L h' m₂ ∧ News h₀ L h' news₂ ∧ n' < μ c ∧ ∃ c : σ, news₂ = Led c ∧ μ c = n' ∧ (∀ p ∈ ps c, m₂ p.1 = some p.2) ∧ P c := by
      rintro ⟨c', h', tk', m', news', rfl, F', N', hn', hk', hp9, hm9⟩
      exact ⟨h', tk', m', Led c', μ c', rfl, F', fun p hp => N' p (hn' p hp), hm9, c', rfl, rfl, hk', hp9⟩
    cases f with
    | ret v => exact q
    | brk => exact q
    | next => exact fin q
    | cont => exact fin q
end
theorem nw_22 {h₀ h : Heap} {L : Addr} {p q a b : Addr × Obj} {r : List (Addr × Obj)} (N : News h₀ L h (p :: q :: a :: b :: r)) : News h₀ L h (p :: q :: r) := by
  intro x hx
  refine N x ?_
  rcases List.mem_cons.mp hx with h | hx
  · exact List.mem_cons.mpr (.inl h)
  · rcases List.mem_cons.mp hx with h | hx
    · exact List.mem_cons.mpr (.inr (List.mem_cons.mpr (.inl h)))
    · exact List.mem_cons.mpr (.inr (List.mem_cons.mpr (.inr (List.mem_cons.mpr (.inr (List.mem_cons.mpr (.inr hx)))))))
local macro_rules | `(tactic| walk_at "MwPost") => `(tactic| (dsimp only [MwPost]))
local macro_rules | `(tactic| walk_at "my steps") => `(tactic| repeat' (first | (k_unfold; (try dsimp only)) | walk1 | (dsimp only; walk1) | fail "no step"))
local macro_rules | `(tactic| walk_at "execs cons") => `(tactic| (k_here; (first | k_extra "no gen" | (refine toks_gen ?_; intro tk)); refine wpAny_execs_cons ?_; try dsimp only))
local macro_rules | `(tactic| walk_at "execs nil") => `(tactic| (k_here; (first | k_extra "no gen" | (refine toks_gen ?_; intro tk)); refine wpAny_execs_nil ?_; try dsimp only))
local macro_rules | `(tactic| walk_at "call builtin:str.replace") => `(tactic| (refine SC.replaceW (Nat.succ_ne_zero _) (Nat.succ_ne_zero _) (Nat.ne_of_lt (Nat.lt_succ_self _)) (by decide) (by decide) (by decide) ?_; intro t9 k9))
local macro_rules | `(tactic| walk_at "exec While Compare cons nil") => `(tactic| k_extra "my while")
local macro_rules | `(tactic| walk_at "exec While Constant cons nil") => `(tactic| k_extra "my while")
local macro_rules | `(tactic| walk_at "exec While BoolOp cons nil") => `(tactic| k_extra "my while")
local macro_rules | `(tactic| walk_at "pyIter ref") => `(tactic| k_extra "my for")
local macro_rules | `(tactic| ktn_call 0 $c) => `(tactic| (k_dflt (refine' Tel.use $c ?k1 ?k2 ?k3 ?k4 ?k5 ?k6 ?k7 ?k8 ?_); (case k1 => k_asm); (case k2 => k_asm); (case k3 => k_asm); (case k4 => k_asm); (case k5 => k_asm); (case k6 => first | exact rfl | assumption); (case k7 => ktr_room); (case k8 => ktr_units)))
local macro_rules | `(tactic| walk_at "my lt") => `(tactic| first | assumption | (apply ktn_ltOf; first | assumption | exact And.right (by assumption)) | (simp only [AllLt, and_true] at *; (intro q9 hq9; simp only [List.mem_cons, List.not_mem_nil, or_false] at hq9; omega)))
local macro_rules | `(tactic| ktn_call 1 $h) => `(tactic| (refine' $h ?hF ?hN ?hP; (case hF => k_asm); (case hN => first | k_asm | (refine' cb_drop ?cbN ?cbS; (case cbN => k_asm); (case cbS => kcj_all)))))
local macro_rules | `(tactic| walk_at "exec For Name Name cons nil") => `(tactic| k_extra "my forhead")
local macro_rules | `(tactic| walk_at "exec For Name Call cons nil") => `(tactic| k_extra "my forhead")
local macro_rules | `(tactic| walk_at "my enter") => `(tactic| (refine' code_def ?k1 ?k2 ?k3 ?k4 ?k5 ?kA ?kF ?kK ?k6 ?k7 ?k8 ?k9 ?kB ?_ ?c2 ?c3 ?c4 ?c5; (case kA => exact rfl); (case kF => exact rfl); (case kK => first | exact rfl | assumption); (case k1 => k_asm); (case k2 => k_asm); (case k3 => k_asm); (case k4 => k_asm); (case k5 => k_asm); (case k6 => k_is); (case k7 => k_is); (case k8 => ktr_room); (case k9 => exact BindsTo.of_eq rfl); (case c5 => decide); (case kB => exact locs rfl); (case c2 => exact rfl); (case c3 => exact rfl); (case c4 => exact rfl); k_whole; intro g' L' h' FG' F' N' B' X' T'; (try dsimp only); (try k_fold)))
local macro_rules | `(tactic| walk_at "call ref") => `(tactic| (k_here; (with_reducible show wpAny _ _ (PySem.call (Value.ref _) _ _) _ _ _); k_extra "inline"; refine wpAny_call ?_; k_dflt (walk_at "my enter")))
local macro_rules | `(tactic| walk_at "eval Name") => `(tactic| (k_here; k_dflt (refine' nameX_K ?zF ?zX ?zT ?ze ?_ ?za ?zb; (case za => rfl); (case zb => rfl); (case zF => k_asm); (case zX => k_asm); (case zT => k_asm); (case ze => k_is); k_whole)))
local macro_rules | `(tactic| walk_at "eval Name") => `(tactic| (k_here; k_dflt (refine' nameX_L ?zF ?zv ?_ ?za ?zb; (case za => rfl); (case zF => k_asm); (case zb => rfl); (case zv => rfl); k_whole)))
local macro_rules | `(tactic| walk_at "ite") => `(tactic| (k_closed; k_dflt (first | refine ite_pos (by decide +kernel) ?_ | refine ite_neg (by decide +kernel) ?_)))
local macro_rules | `(tactic| walk_at "UnrEnd") => `(tactic| k_extra "my unr")
local macro_rules | `(tactic| walk_at "my enterC") => `(tactic| (refine' code_defC ?k1 ?k2 ?k3 ?k4 ?k5 ?kA ?kF ?kK ?k6 ?k7 ?k8 ?k9 ?kB ?kD ?_ ?c2 ?c3 ?c4; (case kA => exact rfl); (case kF => exact rfl); (case kK => first | exact rfl | assumption); (case k1 => k_asm); (case k2 => k_asm); (case k3 => k_asm); (case k4 => k_asm); (case k5 => k_asm); (case k6 => k_is); (case k7 => k_is); (case k8 => ktr_room); (case k9 => exact BindsTo.of_eq rfl); (case kB => exact rfl); (case kD => decide +kernel); (case c2 => exact rfl); (case c3 => exact rfl); (case c4 => exact rfl); k_whole; intro g' L' h' tk' cells' FG' F' N' Y' B' X' T' l1; (try k_lt l1); k_cells Y'; (try simp only [List.cons_append, List.nil_append] at N'); (try dsimp only); (try k_fold)))
theorem fresh_strs : True := by
  w_top off
  k_with_none
  trivial
/-- the signs of a text as a list -/
abbrev tl (x : Str) : List Nat := x.cps.toList
theorem tl_len (x : Str) : (tl x).length = x.length := by simp [tl, Str.length]

theorem item_tl {x : Str} {i : Int} (h0 : 0 ≤ i) (h1 : i < x.length) : ∃ c, (tl x)[i.toNat]? = some c ∧ Txt.item x i = ⟨#[c]⟩ := by
  have hlt : i.toNat < (tl x).length := by rw [tl_len]; omega
  refine ⟨(tl x)[i.toNat], by simp [hlt], ?_⟩
  rw [item_meets ⟨h0, h1⟩]
  have : (tl x)[i.toNat]? = some (tl x)[i.toNat] := by simp [hlt]
  rw [StrLaws.getD_of_getElem? this]
theorem in_one (x : Str) (c : Nat) : (Builtin.Str.occurrences x ⟨#[c]⟩ 0 x.length 1).isEmpty = !decide (c ∈ tl x) := by
  rw [← StrLaws.found_one, Bool.not_not]

theorem rb_end {x s : Str} {c : Int} (h1 : ¬ c < x.length) : rb x s c = c := by
  unfold rb
  rw [List.drop_eq_nil_of_le (by have := tl_len x; simp only [tl] at this; omega)]
  simp
theorem drop_at {l : List Nat} {k c : Nat} (h : l[k]? = some c) : l.drop k = c :: l.drop (k + 1) := by
  have hk : k < l.length := (List.getElem?_eq_some_iff.mp h).1
  rw [List.drop_eq_getElem_cons hk]
  have := (List.getElem?_eq_some_iff.mp h).2
  rw [this]
theorem rb_off {x s : Str} {c : Int} (h0 : 0 ≤ c) (h1 : c < x.length) (h : (Builtin.Str.occurrences s (Txt.item x c) 0 s.length 1).isEmpty = true) : rb x s c = c := by
  obtain ⟨d, hd, e⟩ := item_tl h0 h1
  rw [e, in_one] at h
  unfold rb
  rw [show x.cps.toList.drop c.toNat = _ from drop_at hd, List.takeWhile_cons_of_neg]
  · simp
  · simpa [tl] using h
theorem rb_on {x s : Str} {c : Int} (h0 : 0 ≤ c) (h1 : c < x.length) (h : (Builtin.Str.occurrences s (Txt.item x c) 0 s.length 1).isEmpty = false) : rb x s (c + 1) = rb x s c := by
  obtain ⟨d, hd, e⟩ := item_tl h0 h1
  rw [e, in_one] at h
  unfold rb
  have e1 : (c + 1).toNat = c.toNat + 1 := by omega
  rw [show x.cps.toList.drop c.toNat = _ from drop_at hd, List.takeWhile_cons_of_pos (by simpa [tl] using h), e1, List.length_cons]
  omega
theorem fresh_runb : True := by
  w_top off
  k_with_none
  trivial
section
set_option maxHeartbeats 8000000 in
theorem run_behind_tel (prog : Program) (w : World) (news : List (Addr × Obj)) (text signs : Str) (k : Int) (t1 t2 t3 : Tok) (h0 : 0 ≤ k) (h1 : k ≤ text.length) (h2 : text.length < 2 ^ 62) :
  Tel prog w 76 1 news [.str text t1, .int k t2, .str signs t3] (fun r nw => nw = news ∧ ∃ t, r = .int (rb text signs k) t) := by
  unfold Tel
  intro p loose mean mg mb dp un gd cn cs a ccd cl outer A₀ base h₀ L m s Q E B F X N T hk hdp hun hret
  refine wpAny_call ?_
  k_dflt ktr_enter
  rename Fr _ _ _ (fun y => _) => FX
  obtain ⟨u, FX2⟩ := kst_ex [(Str.ofString "text", .str text t1), (Str.ofString "at", .int k t2), (Str.ofString "signs", .str signs t3)] FX (by kst_all)
  clear FX
  rename News _ _ _ _ => N2
  walk1
  with_unfolding_all refine' mw_while (σ := Int × Tok) (fun _ => news) (fun c => [(Str.ofString "text", .str text t1), (Str.ofString "at", .int c.1 c.2), (Str.ofString "signs", .str signs t3)]) (fun c => 0 ≤ c.1 ∧ c.1 ≤ text.length ∧ rb text signs c.1 = rb text signs k) (fun c => (text.length - c.1).toNat) (k, t2) ?kF ?kN ?kn ?kk ?kp ?_ ?kE
  case kF => exact FX2
  case kN => exact N2
  case kn => exact fun _ h => h
  case kE => first | passes_own | with_unfolding_all passes_own
  case kk => kst_all
  case kp => exact ⟨h0, h1, rfl⟩
  rintro ⟨c, ct⟩ u' h' tk' ⟨hc1, hc2, hc3⟩ FX3 N3
  dsimp only [kstB] at FX3 hc1 hc2 hc3 ⊢
  walk_at "my steps"
  · exact hret _ _ _ _ (by k_asm) (by k_asm) ⟨rfl, _, by rw [← hc3, rb_off hc1 (by assumption) (by assumption)]⟩
  · refine mw_end (c + 1, _) (by k_asm) (by k_asm) (by kst_in) (by kst_all) ⟨by omega, by omega, ?_⟩ (by dsimp only; omega)
    rw [← hc3]; exact rb_on hc1 (by assumption) (by assumption)
  · exact hret _ _ _ _ (by k_asm) (by k_asm) ⟨rfl, _, by rw [← hc3, rb_end (by assumption)]⟩
end
local macro_rules | `(tactic| walk_at "call ref") => `(tactic| (k_here; (with_reducible show wpAny _ _ (PySem.call (Value.ref 76) _ _) _ _ _); ktn_call 0 (run_behind_tel _ _ _ _ _ _ _ _ _ (by omega) (by omega) (by omega)); intro r9 n9 h9 tk9 F9 N9 P9; (try dsimp only at P9); obtain ⟨e9, t9, e8⟩ := P9; subst n9; (try (rename rb _ _ _ = _ => q9; rw [q9] at e8)); subst e8; (try k_sweep)))
theorem fresh_find4 : True := by
  w_top off
  k_with_none
  trivial
open Builtin Builtin.Str in
def find4 (x y : Str) (i j : Int) : Int := match occurrences x y (fromIndex x.length i) (min (fromIndex x.length j) x.length) 1 with | k :: _ => (k : Int) | [] => -1
open Builtin Builtin.Str in
theorem gives_find4 (x y : Str) (i j : Int) (t u v v2 : Tok) : Gives («str.find» ⟨[.str x t, .str y u, .int i v, .int j v2], []⟩) (.int (find4 x y i j)) := by
  unfold find4
  show Gives (match occurrences x y (fromIndex x.length i) (min (fromIndex x.length j) x.length) 1 with | k :: _ => retInt k | [] => (do rule "str.find.not-found"; retInt (-1))) _
  cases occurrences x y (fromIndex x.length i) (min (fromIndex x.length j) x.length) 1 with
  | nil => exact .rule (.of_eq rfl)
  | cons k _ => exact .of_eq rfl
open Builtin Builtin.Str in
theorem wp_find4 {prog : Program} {w : World} {A : Around} {E : Value → Shared → Prop} {s : Shared} {x y : Str} {t u v v2 : Tok} {i j : Int} {Q : Value → Shared → Prop} (hq : Q (.int (find4 x y i j) s.toks) { s with toks := s.toks + 1 }) :
    wpAny (model prog w) A (call (.builtin "str.find") [.str x t, .str y u, .int i v, .int j v2]) Q E s :=
  call_gives F.slot_str_find (typeIs_str _ _ _) F.entry_str_find (F.args_str_find_4 _ _ _ _) (gives_find4 x y i j t u v v2) hq
local macro_rules | `(tactic| walk_at "call builtin:str.find") => `(tactic| ((with_reducible show wpAny _ _ (PySem.call (Value.builtin "str.find") [Value.str _ _, Value.str _ _, Value.int _ _, Value.int _ _]) _ _ _); refine wp_find4 ?_))
theorem fresh_remark : True := by
  w_top off
  k_with_none
  trivial
/-- where a remark ends -/
def rmk (x : Str) (k : Int) : Int :=
  if Txt.slice x (some k) (some (k + 2)) = Str.ofString "//" then (if Txt.find3 x (Str.ofString "\n") k < 0 then x.length else Txt.find3 x (Str.ofString "\n") k) else Txt.find3 x (Str.ofString "*/") (k + 2) + 2
section
variable {x : Str} {k : Int}
theorem rmk_1 (hs : (Txt.slice x (some k) (some (k + 2)) == Str.ofString "//") = true) (hf : Txt.find3 x (Str.ofString "\n") k < 0) : (x.length : Int) = rmk x k := by
  rw [rmk, if_pos (by simpa using hs), if_pos hf]
theorem rmk_2 (hs : (Txt.slice x (some k) (some (k + 2)) == Str.ofString "//") = true) (hf : ¬ Txt.find3 x (Str.ofString "\n") k < 0) : Txt.find3 x (Str.ofString "\n") k = rmk x k := by
  rw [rmk, if_pos (by simpa using hs), if_neg hf]
theorem rmk_3 (hs : (Txt.slice x (some k) (some (k + 2)) == Str.ofString "//") = false) : Txt.find3 x (Str.ofString "*/") (k + 2) + 2 = rmk x k := by
  rw [rmk, if_neg (by simpa using hs)]
end
set_option maxHeartbeats 8000000 in
theorem remark_tel (prog : Program) (w : World) (news : List (Addr × Obj)) (text : Str) (k : Int) (t1 t2 : Tok) (h0 : 0 ≤ k) (h1 : k < text.length) (h2 : text.length < 100000)
  (hp : Txt.slice text (some k) (some (k + 2)) ≠ Str.ofString "//" → 0 ≤ Txt.find3 text (Str.ofString "*/") (k + 2)) :
  Tel prog w 83 1 news [.str text t1, .int k t2] (fun r nw => nw = news ∧ ∃ t, r = .int (rmk text k) t) := by
  unfold Tel
  intro p loose mean mg mb dp un gd cn cs a ccd cl outer A₀ base h₀ L m s Q E B F X N T hk hdp hun hret
  refine wpAny_call ?_
  k_dflt ktr_enter
  rename Fr _ _ _ (fun y => _) => FX
  obtain ⟨u, FX2⟩ := kst_ex [(Str.ofString "text", .str text t1), (Str.ofString "at", .int k t2)] FX (by kst_all)
  clear FX
  dsimp only [kstB] at FX2
  walk_at "my steps"
  · exact hret _ _ _ _ (by k_asm) (by k_asm) ⟨rfl, _, congrArg (fun q => Value.int q _) (rmk_1 (by assumption) (by assumption))⟩
  · exact hret _ _ _ _ (by k_asm) (by k_asm) ⟨rfl, _, congrArg (fun q => Value.int q _) (rmk_2 (by assumption) (by assumption))⟩
  · rename (Txt.slice text (some k) (some (k + 2)) == Str.ofString "//") = false => hs
    exact absurd (hp (by simpa using hs)) (by omega)
  · exact hret _ _ _ _ (by k_asm) (by k_asm) ⟨rfl, _, congrArg (fun q => Value.int q _) (rmk_3 (by assumption))⟩
local macro_rules | `(tactic| walk_at "call ref") => `(tactic| (k_here; (with_reducible show wpAny _ _ (PySem.call (Value.ref 83) _ _) _ _ _); ktn_call 0 (remark_tel _ _ _ _ _ _ _ (by omega) (by omega) (by omega) (by assumption)); intro r9 n9 h9 tk9 F9 N9 P9; (try dsimp only at P9); obtain ⟨e9, t9, e8⟩ := P9; subst n9; (try (rename rmk _ _ = _ => q9; rw [q9] at e8)); subst e8; (try k_sweep)))
theorem fresh_units : True := by
  w_top off
  k_with_none
  trivial
/-- a text's pieces: a blank sign, a remark to the row's end, a remark between signs, a word -/
inductive U where
  | ws (c : Nat)
  | line (r : List Nat)
  | block (r : List Nat)
  | word (k t : Str) (e : Bool)
def blankL : List Nat := [32, 9, 13, 10]
def U.rend : U → List Nat
  | .ws c => [c]
  | .line r => 47 :: 47 :: r
  | .block r => 47 :: 42 :: (r ++ [42, 47])
  | .word _ t _ => t.cps.toList
def U.brk : U → Bool
  | .ws c => c == 10
  | .block r => r.contains 10
  | _ => false
def U.gap : U → Bool
  | .word .. => false
  | _ => true
def rend (us : List U) : List Nat := us.flatMap U.rend
theorem rend_cons (u : U) (us : List U) : rend (u :: us) = u.rend ++ rend us := by simp [rend]
theorem rend_append (us vs : List U) : rend (us ++ vs) = rend us ++ rend vs := by simp [rend]
/-- where the first unit stands that breaks a row -/
def fbrk : List U → Option Nat
  | [] => none
  | u :: us => if u.brk then some 0 else (fbrk us).map (· + u.rend.length)
theorem fbrk_append (us vs : List U) : fbrk (us ++ vs) = (fbrk us).or ((fbrk vs).map (· + (rend us).length)) := by
  induction us with
  | nil => cases h : fbrk vs <;> simp [fbrk, rend, h]
  | cons u us ih =>
    simp only [List.cons_append, fbrk, ih, rend_cons, List.length_append]
    split
    · rfl
    · cases h1 : fbrk us <;> cases h2 : fbrk vs <;> simp [h1, h2] <;> omega
/-- no star and slash stand next to each other -/
def noEnd : List Nat → Bool
  | 42 :: 47 :: _ => false
  | _ :: r => noEnd r
  | [] => true
theorem fresh_units2 : True := by
  w_top off
  k_with_none
  trivial
/-- the first place where sub stands in a list -/
def findL (sub : List Nat) : List Nat → Option Nat
  | [] => if sub.isPrefixOf [] then some 0 else none
  | b :: l => if sub.isPrefixOf (b :: l) then some 0 else (findL sub l).map (· + 1)
theorem findL_none {sub : List Nat} : ∀ {l : List Nat}, findL sub l = none → ∀ i, i ≤ l.length → ¬ sub <+: l.drop i
  | [], h, i, hi => by
    have : i = 0 := by simpa using hi
    subst this
    simp only [findL] at h
    split at h
    · cases h
    · rename_i hc; simpa using hc
  | b :: l, h, i, hi => by
    simp only [findL] at h
    split at h
    · cases h
    · rename_i hc
      cases i with
      | zero => simpa using hc
      | succ i => exact findL_none (by simpa using h) i (by simpa using hi)
theorem findL_some {sub : List Nat} : ∀ {l : List Nat} {j : Nat}, findL sub l = some j → j ≤ l.length ∧ sub <+: l.drop j ∧ ∀ i, i < j → ¬ sub <+: l.drop i
  | [], j, h => by
    simp only [findL] at h
    split at h
    · rename_i hc; cases h; exact ⟨Nat.le_refl _, by simpa using hc, fun i hi => absurd hi (Nat.not_lt_zero _)⟩
    · cases h
  | b :: l, j, h => by
    simp only [findL] at h
    split at h
    · rename_i hc; cases h; exact ⟨Nat.zero_le _, by simpa using hc, fun i hi => absurd hi (Nat.not_lt_zero _)⟩
    · rename_i hc
      cases hf : findL sub l with
      | none => rw [hf] at h; cases h
      | some k =>
        rw [hf] at h
        cases h
        obtain ⟨h1, h2, h3⟩ := findL_some hf
        refine ⟨Nat.succ_le_succ h1, by simpa using h2, fun i hi => ?_⟩
        cases i with
        | zero => simpa using hc
        | succ i => exact h3 i (Nat.lt_of_succ_lt_succ hi)

open Builtin Builtin.Str StrLaws in
theorem first_occ (x y : Str) (lo hi : Nat) :
    (occurrences x y lo hi 1 = [] ∧ ∀ i, lo ≤ i → ¬ StrLaws.At x y hi i) ∨
    ∃ i r, occurrences x y lo hi 1 = i :: r ∧ lo ≤ i ∧ StrLaws.At x y hi i ∧ ∀ k, lo ≤ k → k < i → ¬ StrLaws.At x y hi k := by
  rw [occ_eq]
  rcases occ_first x y hi 1 (Nat.le_refl 1) (List.range' lo (hi + 1 - lo)) lo (fun i hm => (List.mem_range'_1.mp hm).1) with ⟨h0, hn⟩ | ⟨pre, a, post, e, h0, ha, hn⟩
  · rw [h0]
    exact .inl ⟨rfl, fun i hlo hat => hn i (by have := hat.1; rw [List.mem_range'_1]; omega) hat⟩
  · obtain ⟨hs1, hs2⟩ := range'_split_from e
    generalize (forIn (List.range' lo (hi + 1 - lo)) ((#[] : Array Nat), lo) (occBody x y hi 1)).run.fst = arr at h0
    obtain ⟨l⟩ := arr
    cases l with
    | nil => simp at h0
    | cons b t =>
      have : b = a := by simpa using h0
      subst this
      exact .inr ⟨b, t, rfl, hs1, ha, fun k h1 h2 => hn k (hs2 k h1 h2)⟩

theorem at_iff {x y : Str} {A B : List Nat} {n j : Nat} (hx : tl x = A ++ B) (hn : n ≤ B.length) :
    StrLaws.At x y (A.length + n) (A.length + j) ↔ (j ≤ (B.take n).length ∧ tl y <+: (B.take n).drop j) := by
  unfold StrLaws.At
  rw [StrLaws.subAt_eq, show x.cps.toList = A ++ B from hx]
  have hy : y.length = (tl y).length := (tl_len y).symm
  have hd : (A ++ B).drop (A.length + j) = B.drop j := by rw [List.drop_append]; simp
  rw [hd, hy]
  have ht : (B.take n).length = n := by simp; omega
  constructor
  · rintro ⟨h1, h2⟩
    have h2' : (B.drop j).take (tl y).length = tl y := by simpa using h2
    refine ⟨by omega, ?_⟩
    rw [List.drop_take, List.prefix_iff_eq_take, List.take_take, Nat.min_eq_left (by omega)]
    exact h2'.symm
  · rintro ⟨h1, h2⟩
    have hl := h2.length_le
    rw [List.drop_take] at h2 hl
    rw [List.length_take] at hl
    have h3 : (tl y).length ≤ n - j := Nat.le_trans hl (Nat.min_le_left _ _)
    rw [List.prefix_iff_eq_take, List.take_take, Nat.min_eq_left h3] at h2
    refine ⟨by omega, ?_⟩
    rw [← h2]
    simp [tl]

theorem occ_findL {x y : Str} {A B : List Nat} {n : Nat} (hx : tl x = A ++ B) (hn : n ≤ B.length) :
    (match Builtin.Str.occurrences x y A.length (A.length + n) 1 with | k :: _ => (k : Int) | [] => -1) = (match findL (tl y) (B.take n) with | some j => (A.length : Int) + j | none => -1) := by
  rcases first_occ x y A.length (A.length + n) with ⟨h0, hno⟩ | ⟨i, r, h0, hlo, hi, hk⟩
  · rw [h0]
    cases hf : findL (tl y) (B.take n) with
    | none => rfl
    | some j =>
      obtain ⟨h1, h2, _⟩ := findL_some hf
      exact absurd ((at_iff hx hn).mpr ⟨h1, h2⟩) (hno _ (by omega))
  · rw [h0]
    obtain ⟨j, rfl⟩ := Nat.exists_eq_add_of_le hlo
    have hj := (at_iff hx hn).mp hi
    cases hf : findL (tl y) (B.take n) with
    | none => exact absurd hj.2 (findL_none hf j hj.1)
    | some j' =>
      obtain ⟨h1, h2, h3⟩ := findL_some hf
      have : j = j' := by
        rcases Nat.lt_trichotomy j j' with h | h | h
        · exact absurd hj.2 (h3 j h)
        · exact h
        · exact absurd ((at_iff hx hn).mpr ⟨h1, h2⟩) (hk _ (by omega) (by omega))
      subst this
      simp

theorem fromIdx {len : Nat} {i : Int} (h : 0 ≤ i) : fromIndex len i = i.toNat := by
  unfold fromIndex
  rw [if_neg (by omega)]
  omega
theorem find3_L {x y : Str} {A B : List Nat} {c : Int} (hx : tl x = A ++ B) (hc : c = A.length) :
    Txt.find3 x y c = (match findL (tl y) B with | some j => c + j | none => -1) := by
  have hl : x.length = A.length + B.length := by rw [← tl_len, hx, List.length_append]
  have := occ_findL (y := y) hx (Nat.le_refl _)
  rw [List.take_length, ← hl] at this
  unfold Txt.find3
  rw [fromIdx (by omega), show c.toNat = A.length by omega, hc]
  exact this
theorem find4_L {x y : Str} {A B : List Nat} {c d : Int} {n : Nat} (hx : tl x = A ++ B) (hc : c = A.length) (hd : d = c + n) (hn : n ≤ B.length) :
    find4 x y c d = (match findL (tl y) (B.take n) with | some j => c + j | none => -1) := by
  have hl : x.length = A.length + B.length := by rw [← tl_len, hx, List.length_append]
  have := occ_findL (y := y) hx hn
  unfold find4
  rw [fromIdx (by omega), fromIdx (by omega), show c.toNat = A.length by omega, show min d.toNat x.length = A.length + n by omega, hc]
  exact this
theorem fresh_units3 : True := by
  w_top off
  k_with_none
  trivial
open Builtin.Str in
theorem sliceIdx_clip {c d : Int} {len : Nat} (hd : 0 ≤ d) : strSliceIndices (some c) (some d) 1 len = strSliceIndices (some c) (some (min d len)) 1 len := by
  have e1 : ¬ d < 0 := by omega
  have e2 : ¬ min d (len : Int) < 0 := by omega
  have e3 : min (min d (len : Int)) (len : Int) = min d (len : Int) := by omega
  simp only [strSliceIndices, e1, e2, if_false, e3, show ((1 : Int) > 0) = True from by simp, if_true]
theorem slice_L {x : Str} {c n : Int} (h0 : 0 ≤ c) (h1 : c ≤ x.length) (hn : 0 ≤ n) : Txt.slice x (some c) (some (c + n)) = ⟨(((tl x).drop c.toNat).take n.toNat).toArray⟩ := by
  have e : Txt.slice x (some c) (some (c + n)) = StrLaws.sliceText x (some c) (some (min (c + n) x.length)) := by
    unfold Txt.slice StrLaws.sliceText
    rw [sliceIdx_clip (by omega)]
  rw [e, StrLaws.sliceText_plain ⟨h0, by omega, by have := tl_len x; simp only [tl] at this; omega⟩]
  congr 2
  have hl : ((tl x).drop c.toNat).length = x.length - c.toNat := by rw [List.length_drop, tl_len]
  by_cases h : c + n ≤ x.length
  · rw [show (min (c + n) (x.length : Int) - c).toNat = n.toNat by omega]
  · rw [List.take_of_length_le (by rw [hl]; omega), List.take_of_length_le (by rw [hl]; omega)]

/-- the units that stand from a place on -/
def AtU (x : Str) (c : Int) (us : List U) : Prop := ∃ A, tl x = A ++ rend us ∧ c = (A.length : Int)
section
variable {x : Str} {c : Int} {u : U} {us vs : List U} {d : Nat} {r : List Nat}
theorem AtU.len (h : AtU x c us) : (x.length : Int) = c + (rend us).length ∧ 0 ≤ c := by
  obtain ⟨A, h1, h2⟩ := h
  have : x.length = A.length + (rend us).length := by rw [← tl_len, h1, List.length_append]
  omega
theorem AtU.move (h : AtU x c (us ++ vs)) : AtU x (c + (rend us).length) vs := by
  obtain ⟨A, h1, h2⟩ := h
  refine ⟨A ++ rend us, by rw [h1, rend_append, List.append_assoc], ?_⟩
  rw [List.length_append]; omega
theorem AtU.drop (h : AtU x c us) : (tl x).drop c.toNat = rend us := by
  obtain ⟨A, h1, h2⟩ := h
  rw [h1, List.drop_append]
  have : c.toNat = A.length := by omega
  simp [this]
theorem AtU.item (h : AtU x c us) (e : rend us = d :: r) : Txt.item x c = ⟨#[d]⟩ := by
  obtain ⟨hl, h0⟩ := h.len
  have : c < x.length := by rw [hl, e, List.length_cons]; omega
  obtain ⟨d', h1, h2⟩ := item_tl h0 this
  rw [h2]
  have hd := drop_at h1
  rw [h.drop, e] at hd
  rw [(List.cons.inj hd).1]
theorem AtU.slice (h : AtU x c us) (n : Int) (hn : 0 ≤ n) : Txt.slice x (some c) (some (c + n)) = ⟨((rend us).take n.toNat).toArray⟩ := by
  obtain ⟨hl, h0⟩ := h.len
  rw [slice_L h0 (by omega) hn, h.drop]
theorem AtU.inS (h : AtU x c us) (e : rend us = d :: r) (s : Str) : (Builtin.Str.occurrences s (Txt.item x c) 0 s.length 1).isEmpty = !decide (d ∈ tl s) := by
  rw [h.item e, in_one]
theorem AtU.rb (h : AtU x c us) (s : Str) : rb x s c = c + (((rend us).takeWhile fun c => s.cps.contains c).length : Int) := by
  unfold Mine.rb
  rw [show x.cps.toList.drop c.toNat = _ from h.drop]
theorem AtU.find3 (h : AtU x c us) (y : Str) : Txt.find3 x y c = (match findL (tl y) (rend us) with | some j => c + j | none => -1) := by
  obtain ⟨A, h1, h2⟩ := h
  exact find3_L h1 h2
theorem AtU.find4 (h : AtU x c us) (y : Str) {e : Int} {n : Nat} (he : e = c + n) (hn : n ≤ (rend us).length) : find4 x y c e = (match findL (tl y) ((rend us).take n) with | some j => c + j | none => -1) := by
  obtain ⟨A, h1, h2⟩ := h
  exact find4_L h1 h2 he hn
end
theorem fresh_units4 : True := by
  w_top off
  k_with_none
  trivial
def BL : Str := Str.ofString " \t\x0d\n"
theorem tl_BL : tl (Str.ofString " \t\x0d\n") = [32, 9, 13, 10] := by decide
theorem tl_nl : tl (Str.ofString "\n") = [10] := by decide
theorem tl_ce : tl (Str.ofString "*/") = [42, 47] := by decide
theorem BL_mem (d : Nat) : decide (d ∈ tl (Str.ofString " \t\x0d\n")) = blankL.contains d := by rw [tl_BL]; simp [blankL]
theorem BL_con (d : Nat) : (Str.ofString " \t\x0d\n").cps.contains d = blankL.contains d := by
  have : (Str.ofString " \t\x0d\n").cps = #[32, 9, 13, 10] := by decide
  rw [this]; simp [blankL]

/-- the text of a word is one that no gap's sign opens -/
def wOk (t : Str) : Prop := ∃ d r, t.cps.toList = d :: r ∧ blankL.contains d = false ∧ d ≠ 47
def okU : List U → Prop
  | [] => True
  | .ws c :: us => blankL.contains c = true ∧ okU us
  | .line r :: us => r.contains 10 = false ∧ (∃ vs, us = .ws 10 :: vs) ∧ okU us
  | .block r :: us => noEnd (r ++ [42]) = true ∧ okU us
  | .word _ t _ :: us => wOk t ∧ (us = [] ∨ ∃ d vs, us = .ws d :: vs) ∧ okU us
def isWs : U → Bool
  | .ws _ => true
  | _ => false
def wordFirst : List U → Prop
  | [] => True
  | .word .. :: _ => True
  | _ => False
theorem okU_append {us vs : List U} (h : okU (us ++ vs)) : okU vs := by
  induction us with
  | nil => exact h
  | cons u us ih =>
    cases u with
    | ws c => exact ih h.2
    | line r => exact ih h.2.2
    | block r => exact ih h.2
    | word k t e => exact ih h.2.2
/-- what stands first is no blank sign, unless it is a blank unit -/
theorem first_off {us : List U} (ok : okU us) (h : ∀ d vs, us ≠ .ws d :: vs) : rend us = [] ∨ ∃ d r, rend us = d :: r ∧ blankL.contains d = false := by
  cases us with
  | nil => exact .inl rfl
  | cons u us =>
    refine .inr ?_
    cases u with
    | ws c => exact absurd rfl (h c us)
    | line r => exact ⟨47, _, rend_cons _ _, by decide⟩
    | block r => exact ⟨47, _, rend_cons _ _, by decide⟩
    | word k t e =>
      obtain ⟨⟨d, r, h1, h2, _⟩, _⟩ := ok
      exact ⟨d, r ++ rend us, by rw [rend_cons, U.rend, h1]; rfl, h2⟩

theorem tw_append {p : Nat → Bool} {a b : List Nat} (h : ∀ d ∈ a, p d = true) (hb : b = [] ∨ ∃ d r, b = d :: r ∧ p d = false) : (a ++ b).takeWhile p = a := by
  induction a with
  | nil =>
    rcases hb with rfl | ⟨d, r, rfl, hd⟩
    · rfl
    · simp [hd]
  | cons x a ih =>
    rw [List.cons_append, List.takeWhile_cons_of_pos (h x (.head _)), ih fun d hd => h d (.tail _ hd)]
theorem runs_blank {run : List U} (hr : ∀ u ∈ run, ∃ d, u = .ws d ∧ blankL.contains d = true) : ∀ d ∈ rend run, blankL.contains d = true := by
  intro d hd
  simp only [rend, List.mem_flatMap] at hd
  obtain ⟨u, hu, hd⟩ := hd
  obtain ⟨e, rfl, he⟩ := hr u hu
  simp only [U.rend, List.mem_singleton] at hd
  rw [hd]; exact he
theorem beq_sym (a b : Nat) : (a == b) = (b == a) := by
  rw [Bool.eq_iff_iff, beq_iff_eq, beq_iff_eq]; exact ⟨Eq.symm, Eq.symm⟩
theorem nl_pre (a : Nat) (l : List Nat) : ([10] : List Nat).isPrefixOf (a :: l) = (a == 10) := by
  show ((10 == a) && true) = _
  rw [Bool.and_true, beq_sym]
theorem con_off {a : Nat} {l : List Nat} (h : (a :: l).contains 10 = false) : (a == 10) = false ∧ l.contains 10 = false := by
  rw [List.contains_cons, Bool.or_eq_false_iff] at h
  exact ⟨by rw [beq_sym]; exact h.1, h.2⟩
theorem runs_find {run : List U} (hr : ∀ u ∈ run, ∃ d, u = .ws d ∧ blankL.contains d = true) : findL [10] (rend run) = fbrk run := by
  induction run with
  | nil => rfl
  | cons u us ih =>
    obtain ⟨d, rfl, hd⟩ := hr u (.head _)
    have := ih fun u hu => hr u (.tail _ hu)
    rw [rend_cons]
    show findL [10] (d :: rend us) = _
    simp only [findL, nl_pre, this, fbrk, U.brk, U.rend, List.length_singleton]
    rfl
theorem findL_free {l : List Nat} (h : l.contains 10 = false) : findL [10] l = none := by
  induction l with
  | nil => rfl
  | cons a l ih =>
    obtain ⟨h1, h2⟩ := con_off h
    simp only [findL, nl_pre]
    rw [h1, ih h2]; rfl
theorem findL_has {l : List Nat} (h : l.contains 10 = true) : ∃ j, findL [10] l = some j := by
  induction l with
  | nil => simp at h
  | cons a l ih =>
    simp only [findL, nl_pre]
    by_cases h1 : (a == 10) = true
    · exact ⟨0, by rw [h1]; rfl⟩
    · rw [List.contains_cons] at h
      have h2 : l.contains 10 = true := by
        rcases Bool.or_eq_true_iff.mp h with h | h
        · rw [beq_sym] at h; exact absurd h h1
        · exact h
      obtain ⟨j, hj⟩ := ih h2
      exact ⟨j + 1, by simp [h1, hj]⟩
theorem findL_line {r s : List Nat} (h : r.contains 10 = false) : findL [10] (r ++ 10 :: s) = some r.length := by
  induction r with
  | nil => simp [findL]
  | cons a r ih =>
    obtain ⟨h1, h2⟩ := con_off h
    simp only [List.cons_append, findL, nl_pre, h1, ih h2, List.length_cons]
    rfl
theorem ce_pre (a b : Nat) (l : List Nat) : ([42, 47] : List Nat).isPrefixOf (a :: b :: l) = (a == 42 && b == 47) := by
  show ((42 == a) && ((47 == b) && true)) = _
  rw [Bool.and_true, beq_sym 42, beq_sym 47]
theorem noEnd_two (a b : Nat) (l : List Nat) : noEnd (a :: b :: l) = (!(a == 42 && b == 47) && noEnd (b :: l)) := by
  by_cases ha : a = 42
  · subst ha
    by_cases hb : b = 47
    · subst hb; rfl
    · have : (b == 47) = false := by simpa using hb
      rw [this]
      rw [noEnd]
      · rfl
      · intro x _ h; exact hb (List.cons.inj h).1
  · have : (a == 42) = false := by simpa using ha
    rw [this, noEnd]
    · rfl
    · intro x h _; exact absurd h ha
theorem findL_block : ∀ {r : List Nat} {s : List Nat}, noEnd (r ++ [42]) = true → findL [42, 47] (r ++ 42 :: 47 :: s) = some r.length
  | [], s, _ => by simp [findL]
  | [a], s, h => by
    have h1 : (a == 42 && (42 : Nat) == 47) = false := by simp
    simp only [List.cons_append, List.nil_append, findL, ce_pre, h1]
    simp
  | a :: b :: r, s, h => by
    rw [show (a :: b :: r) ++ [42] = a :: b :: (r ++ [42]) from rfl, noEnd_two, Bool.and_eq_true, Bool.not_eq_true'] at h
    have ih := findL_block (r := b :: r) (s := s) h.2
    simp only [List.cons_append] at ih ⊢
    rw [findL, ce_pre, h.1, ih]
    simp
theorem fresh_units5 : True := by
  w_top off
  k_with_none
  trivial
theorem st_ss : Str.ofString "//" = ⟨#[47, 47]⟩ := by decide
theorem st_sa : Str.ofString "/*" = ⟨#[47, 42]⟩ := by decide
theorem st_s : Str.ofString "/" = ⟨#[47]⟩ := by decide
section
variable {x : Str} {c : Int} {us vs : List U} {d : Nat} {r : List Nat}
theorem sl_off (h : AtU x c us) (e : rend us = d :: r) (hd : d ≠ 47) : ([Str.ofString "//", Str.ofString "/*"].any fun y => y == Txt.slice x (some c) (some (c + 2))) = false := by
  rw [h.slice 2 (by omega), e, st_ss, st_sa]
  have : ∀ b, ((⟨#[47, b]⟩ : Str) == ⟨((d :: r).take (2 : Int).toNat).toArray⟩) = false := by
    intro b
    rw [beq_eq_false_iff_ne]
    intro hc
    have := congrArg (fun s : Str => s.cps.toList) hc
    simp at this
    exact hd this.1.symm
  simp only [List.any_cons, List.any_nil, this, Bool.or_false]
theorem sl_two (h : AtU x c us) {b : Nat} (e : rend us = d :: b :: r) : Txt.slice x (some c) (some (c + 2)) = ⟨#[d, b]⟩ := by
  rw [h.slice 2 (by omega), e]
  rfl
theorem bl_word {k t : Str} {e : Bool} (h : AtU x c (.word k t e :: us)) (ok : okU (.word k t e :: us)) :
    c < x.length ∧ (Builtin.Str.occurrences (Str.ofString " \t\x0d\n") (Txt.item x c) 0 (Str.ofString " \t\x0d\n").length 1).isEmpty = true ∧ ([Str.ofString "//", Str.ofString "/*"].any fun y => y == Txt.slice x (some c) (some (c + 2))) = false := by
  obtain ⟨⟨d, r, h1, h2, h3⟩, _⟩ := ok
  have e : rend (.word k t e :: us) = d :: (r ++ rend us) := by rw [rend_cons, U.rend, h1]; rfl
  refine ⟨?_, ?_, sl_off h e h3⟩
  · have := h.len.1; rw [e, List.length_cons] at this; omega
  · rw [h.inS e, BL_mem, h2]; rfl
theorem bl_run {run : List U} (hne : run ≠ []) (h : AtU x c (run ++ us)) (hr : ∀ u ∈ run, ∃ d, u = .ws d ∧ blankL.contains d = true) (hu : rend us = [] ∨ ∃ d r, rend us = d :: r ∧ blankL.contains d = false) :
    c < x.length ∧ (Builtin.Str.occurrences (Str.ofString " \t\x0d\n") (Txt.item x c) 0 (Str.ofString " \t\x0d\n").length 1).isEmpty = false ∧ (Txt.item x c == Str.ofString "/") = false ∧
    rb x (Str.ofString " \t\x0d\n") c = c + ((rend run).length : Int) ∧ find4 x (Str.ofString "\n") c (rb x (Str.ofString " \t\x0d\n") c) = (match fbrk run with | some j => c + j | none => -1) := by
  cases run with
  | nil => exact absurd rfl hne
  | cons u run' =>
    obtain ⟨d, hu', hd⟩ := hr u (.head _)
    subst hu'
    have e : rend (.ws d :: run' ++ us) = d :: (rend run' ++ rend us) := by rw [List.cons_append, rend_cons, rend_append]; rfl
    have hb : rb x (Str.ofString " \t\x0d\n") c = c + ((rend (.ws d :: run')).length : Int) := by
      rw [h.rb]
      rw [show (fun c => (Str.ofString " \t\x0d\n").cps.contains c) = fun c => blankL.contains c from funext BL_con, rend_append, tw_append (runs_blank hr) hu]
    refine ⟨?_, ?_, ?_, hb, ?_⟩
    · have := h.len.1; rw [e, List.length_cons] at this; omega
    · rw [h.inS e, BL_mem, hd]; rfl
    · rw [h.item e, st_s, beq_eq_false_iff_ne]
      intro hc
      have : d = 47 := by simpa using hc
      subst this
      exact absurd hd (by decide)
    · rw [h.find4 _ hb (by rw [rend_append, List.length_append]; omega), tl_nl, rend_append, List.take_left' rfl, runs_find hr]
      all_goals rfl
theorem bl_line {q : List Nat} (h : AtU x c (.line q :: us)) (ok : okU (.line q :: us)) :
    c < x.length ∧ (Builtin.Str.occurrences (Str.ofString " \t\x0d\n") (Txt.item x c) 0 (Str.ofString " \t\x0d\n").length 1).isEmpty = true ∧ ([Str.ofString "//", Str.ofString "/*"].any fun y => y == Txt.slice x (some c) (some (c + 2))) = true ∧ (Txt.item x c == Str.ofString "/") = true ∧
    (Txt.slice x (some c) (some (c + 2)) ≠ Str.ofString "//" → 0 ≤ Txt.find3 x (Str.ofString "*/") (c + 2)) ∧
    rmk x c = c + ((rend [.line q]).length : Int) ∧ find4 x (Str.ofString "\n") c (rmk x c) = -1 := by
  obtain ⟨h1, ⟨vs, rfl⟩, _⟩ := ok
  have e : rend (.line q :: .ws 10 :: vs) = 47 :: 47 :: (q ++ 10 :: rend vs) := by rw [rend_cons, rend_cons]; simp [U.rend]
  have hs := sl_two h e
  have hl := h.len
  have hf : Txt.find3 x (Str.ofString "\n") c = c + ((rend [.line q]).length : Int) := by
    rw [h.find3, tl_nl, e, show (47 : Nat) :: 47 :: (q ++ 10 :: rend vs) = (47 :: 47 :: q) ++ 10 :: rend vs from rfl, findL_line (by simp only [List.contains_cons, h1]; decide)]
    simp [rend, U.rend]
  have hr : rmk x c = c + ((rend [.line q]).length : Int) := by
    rw [rmk, if_pos (by rw [hs, st_ss]), hf, if_neg (by omega)]
  refine ⟨?_, ?_, ?_, ?_, fun hn => absurd (by rw [hs, st_ss]) hn, hr, ?_⟩
  · rw [e, List.length_cons] at hl; omega
  · rw [h.inS e, BL_mem]; rfl
  · rw [hs, st_ss, st_sa]; decide
  · rw [h.item e, st_s]; decide
  · rw [h.find4 _ hr (by rw [rend_cons (.line q) (.ws 10 :: vs), List.length_append]; simp [rend]), tl_nl, rend_cons (.line q) (.ws 10 :: vs), show rend [.line q] = U.rend (.line q) by simp [rend], List.take_left' rfl, U.rend, findL_free (by simp only [List.contains_cons, h1]; decide)]
theorem bl_block {q : List Nat} (h : AtU x c (.block q :: us)) (ok : okU (.block q :: us)) :
    c < x.length ∧ (Builtin.Str.occurrences (Str.ofString " \t\x0d\n") (Txt.item x c) 0 (Str.ofString " \t\x0d\n").length 1).isEmpty = true ∧ ([Str.ofString "//", Str.ofString "/*"].any fun y => y == Txt.slice x (some c) (some (c + 2))) = true ∧ (Txt.item x c == Str.ofString "/") = true ∧
    (Txt.slice x (some c) (some (c + 2)) ≠ Str.ofString "//" → 0 ≤ Txt.find3 x (Str.ofString "*/") (c + 2)) ∧
    rmk x c = c + ((rend [.block q]).length : Int) ∧ (if q.contains 10 = true then 0 ≤ find4 x (Str.ofString "\n") c (rmk x c) else find4 x (Str.ofString "\n") c (rmk x c) = -1) := by
  obtain ⟨h1, _⟩ := ok
  have e : rend (.block q :: us) = 47 :: 42 :: (q ++ 42 :: 47 :: rend us) := by rw [rend_cons]; simp [U.rend]
  have hs := sl_two h e
  have hl := h.len
  obtain ⟨A, hA, hc⟩ := id h
  have hf : Txt.find3 x (Str.ofString "*/") (c + 2) = c + 2 + (q.length : Int) := by
    rw [find3_L (A := A ++ [47, 42]) (B := q ++ 42 :: 47 :: rend us) (by rw [hA, e]; simp) (by rw [List.length_append]; simp; omega), tl_ce, findL_block h1]
  have hr : rmk x c = c + ((rend [.block q]).length : Int) := by
    rw [rmk, if_neg (by rw [hs, st_ss]; decide), hf]
    simp [rend, U.rend]; omega
  have h4 : find4 x (Str.ofString "\n") c (rmk x c) = (match findL [10] (U.rend (.block q)) with | some j => c + j | none => -1) := by
    rw [h.find4 _ hr (by rw [rend_cons (.block q) us, List.length_append]; simp [rend]), tl_nl, rend_cons (.block q) us, show rend [.block q] = U.rend (.block q) by simp [rend], List.take_left' rfl]
    all_goals rfl
  have hcn : (U.rend (.block q)).contains 10 = q.contains 10 := by
    simp [U.rend]
  refine ⟨?_, ?_, ?_, ?_, fun _ => by rw [hf]; omega, hr, ?_⟩
  · rw [e, List.length_cons] at hl; omega
  · rw [h.inS e, BL_mem]; rfl
  · rw [hs, st_ss, st_sa]; decide
  · rw [h.item e, st_s]; decide
  · rw [h4]
    cases hq : q.contains 10 with
    | true =>
      obtain ⟨j, hj⟩ := findL_has (hcn.trans hq)
      rw [hj]; simp; omega
    | false =>
      rw [findL_free (hcn.trans hq)]; simp
end
theorem fresh_units6 : True := by
  w_top off
  k_with_none
  trivial
abbrev tupO (vs : List Value) : Obj := { cls := .type "tuple", data := .seq vs.toArray }
def bval (t : Tok) : Option Int → Value
  | none => .none
  | some i => .int i t
def kof (k : Int) (o : Option Nat) : Option Int := o.map fun (j : Nat) => k + (j : Int)
theorem kk_int {o : Option Value} {a b : Int} {t : Tok} (h : o = some (.int a t)) (e : a = b) : o = some (.int b t) := e ▸ h
theorem kk_bsome {m : Option Value} {a : Int} {t : Tok} {o : Option Int} (h : m = some (.int a t)) (e : o = some a) : m = some (bval t o) := by rw [e]; exact h
theorem kk_bnone {m : Option Value} {t : Tok} {o : Option Int} (h : m = some .none) (e : o = none) : m = some (bval t o) := by rw [e]; exact h

theorem tw_all {todo : List U} : ∀ u ∈ todo.takeWhile isWs, isWs u = true := by
  induction todo with
  | nil => intro u hu; cases hu
  | cons v vs ih =>
    intro u hu
    cases hv : isWs v with
    | false => rw [List.takeWhile_cons_of_neg (by rw [hv]; decide)] at hu; cases hu
    | true =>
      rw [List.takeWhile_cons_of_pos hv] at hu
      rcases List.mem_cons.mp hu with rfl | hu
      · exact hv
      · exact ih u hu
theorem okU_ws {us : List U} {d : Nat} (ok : okU us) (h : U.ws d ∈ us) : blankL.contains d = true := by
  induction us with
  | nil => cases h
  | cons u us ih =>
    rcases List.mem_cons.mp h with e | h'
    · subst e; exact ok.1
    · cases u with
      | ws c => exact ih ok.2 h'
      | line r => exact ih ok.2.2 h'
      | block r => exact ih ok.2 h'
      | word k t e => exact ih ok.2.2 h'
abbrev inBl (x : Str) (c : Int) : Bool := (Builtin.Str.occurrences (Str.ofString " \t\x0d\n") (Txt.item x c) 0 (Str.ofString " \t\x0d\n").length 1).isEmpty
abbrev inRm (x : Str) (c : Int) : Bool := [Str.ofString "//", Str.ofString "/*"].any fun y => y == Txt.slice x (some c) (some (c + 2))
inductive BlCase (x : Str) (c : Int) (todo : List U) : Prop
  | done (h : todo = []) (hc : ¬ c < x.length)
  | word (h : todo = []) (hc : c < x.length) (h1 : inBl x c = true) (h2 : inRm x c = false)
  | run (run todo2 : List U) (e f : Int) (h : todo = run ++ todo2) (hl : run.length ≠ 0) (hc : c < x.length) (h1 : inBl x c = false) (h3 : (Txt.item x c == Str.ofString "/") = false) (hb : rb x (Str.ofString " \t\x0d\n") c = e) (he : e = c + ((rend run).length : Int)) (hf : find4 x (Str.ofString "\n") c e = f)
      (hv : (fbrk run = none ∧ f = -1) ∨ ∃ j : Nat, fbrk run = some j ∧ f = c + j)
  | rem (u : U) (todo2 : List U) (e f : Int) (h : todo = u :: todo2) (hc : c < x.length) (h1 : inBl x c = true) (h2 : inRm x c = true) (h3 : (Txt.item x c == Str.ofString "/") = true)
      (hp : Txt.slice x (some c) (some (c + 2)) ≠ Str.ofString "//" → 0 ≤ Txt.find3 x (Str.ofString "*/") (c + 2)) (hb : rmk x c = e) (he : e = c + ((rend [u]).length : Int)) (hf : find4 x (Str.ofString "\n") c e = f)
      (hv : (u.brk = false ∧ f = -1) ∨ (u.brk = true ∧ 0 ≤ f))
theorem bl_cases {x : Str} {c : Int} {todo rest : List U} (hA : AtU x c (todo ++ rest)) (hg : ∀ u ∈ todo, u.gap = true) (hw : wordFirst rest) (ok : okU (todo ++ rest)) : BlCase x c todo := by
  cases todo with
  | nil =>
    cases rest with
    | nil =>
      have := hA.len.1
      exact .done rfl (by rw [this]; simp [rend])
    | cons u us =>
      cases u with
      | word k t e =>
        obtain ⟨a, b, d⟩ := bl_word hA ok
        exact .word rfl a b d
      | ws _ => exact hw.elim
      | line _ => exact hw.elim
      | block _ => exact hw.elim
  | cons u us =>
    cases hu : isWs u with
    | true =>
      have hsp : (u :: us) = (u :: us).takeWhile isWs ++ (u :: us).dropWhile isWs := (List.takeWhile_append_dropWhile).symm
      have hne : (u :: us).takeWhile isWs ≠ [] := by rw [List.takeWhile_cons_of_pos hu]; simp
      generalize hrun : (u :: us).takeWhile isWs = run at hsp hne
      generalize ht2 : (u :: us).dropWhile isWs = todo2 at hsp
      have hall : ∀ v ∈ run, ∃ d, v = .ws d ∧ blankL.contains d = true := by
        intro v hv
        have h1 : isWs v = true := by rw [← hrun] at hv; exact tw_all v hv
        cases v with
        | ws d => exact ⟨d, rfl, okU_ws ok (List.mem_append.mpr (.inl (by rw [hsp]; exact List.mem_append.mpr (.inl hv))))⟩
        | _ => simp [isWs] at h1
      have hA' : AtU x c (run ++ (todo2 ++ rest)) := by rw [← List.append_assoc, ← hsp]; exact hA
      have ok2 : okU (todo2 ++ rest) := okU_append (us := run) (by rw [← List.append_assoc, ← hsp]; exact ok)
      have hfirst : ∀ d vs, todo2 ++ rest ≠ .ws d :: vs := by
        intro d vs h
        cases todo2 with
        | nil =>
          cases rest with
          | nil => cases h
          | cons v vs' =>
            rw [List.nil_append] at h
            rw [(List.cons.inj h).1] at hw
            exact hw
        | cons v vs' =>
          have h1 : isWs v = false := by
            have := List.head?_dropWhile_not isWs (u :: us)
            rw [ht2] at this
            simpa using this
          rw [(List.cons.inj h).1] at h1
          simp [isWs] at h1
      obtain ⟨a, b, d, e, f⟩ := bl_run hne hA' hall (first_off ok2 hfirst)
      refine .run run todo2 _ _ hsp (by simpa using hne) a b d rfl e rfl ?_
      cases hb : fbrk run with
      | none => rw [hb] at f; exact .inl ⟨rfl, f⟩
      | some j => rw [hb] at f; exact .inr ⟨j, rfl, f⟩
    | false =>
      cases u with
      | ws d => simp [isWs] at hu
      | word k t e => have := hg _ (.head _); simp [U.gap] at this
      | line q =>
        obtain ⟨a, b, d, e, f, g, i⟩ := bl_line hA ok
        exact .rem _ us _ _ rfl a b d e f rfl g rfl (.inl ⟨rfl, i⟩)
      | block q =>
        obtain ⟨a, b, d, e, f, g, i⟩ := bl_block hA ok
        refine .rem _ us _ _ rfl a b d e f rfl g rfl ?_
        cases hq : q.contains 10 with
        | true => rw [if_pos hq] at i; exact .inr ⟨hq, i⟩
        | false => rw [if_neg (by rw [hq]; decide)] at i; exact .inl ⟨hq, i⟩
theorem bl_at {k c e : Int} {done run : List U} (h1 : k + ((rend done).length : Int) = c) (h2 : e = c + ((rend run).length : Int)) : e = k + ((rend (done ++ run)).length : Int) := by
  rw [rend_append, List.length_append]; omega
theorem bl_br {k c : Int} {ob : Option Int} {done run : List U} (h1 : k + ((rend done).length : Int) = c) (h2 : kof k (fbrk done) = ob) : kof k (fbrk (done ++ run)) = ob.or (kof c (fbrk run)) := by
  rw [fbrk_append, ← h2]
  cases fbrk done with
  | some j => rfl
  | none =>
    cases fbrk run with
    | none => rfl
    | some j => simp [kof]; omega
theorem fbrk_one {u : U} : fbrk [u] = if u.brk then some 0 else none := by
  simp [fbrk]
theorem fresh_blanks : True := by
  w_top off
  k_with_none
  trivial
set_option maxHeartbeats 8000000 in
theorem blanks_tel (prog : Program) (w : World) (news : List (Addr × Obj)) (text : Str) (k : Int) (t1 t2 : Tok) (gap rest : List U) (hA : AtU text k (gap ++ rest)) (hg : ∀ u ∈ gap, u.gap = true) (hw : wordFirst rest) (ok : okU (gap ++ rest)) (h2 : text.length < 100000) :
  Tel prog w 90 2 news [.str text t1, .int k t2] (fun r nw => ∃ a t t', (∀ q ∈ news, q.1 < a) ∧ nw = (a, tupO [.int (k + ((rend gap).length : Int)) t, bval t' (kof k (fbrk gap))]) :: news ∧ r = .ref a) := by
  unfold Tel
  intro p loose mean mg mb dp un gd cn cs a ccd cl outer A₀ base h₀ L m s Q E B F X N T hk hdp hun hret
  refine wpAny_call ?_
  k_dflt ktr_enter
  rename Fr _ _ _ (fun y => _) => FX
  obtain ⟨u, FX2⟩ := kst_ex [(Str.ofString "text", .str text t1), (Str.ofString "at", .int k t2)] FX (by kst_all)
  clear FX
  dsimp only [kstB] at FX2
  k_with_none
  k_with "my while" =>
    rename Fr _ _ _ (fun y => _) => FX3
    rename News _ _ _ _ => N2
    with_unfolding_all refine' mw_while (σ := List U × List U × Tok × Tok) (fun _ => news) (fun c => [(Str.ofString "text", .str text t1), (Str.ofString "at", .int (k + ((rend c.1).length : Int)) c.2.2.1), (Str.ofString "broken", bval c.2.2.2 (kof k (fbrk c.1)))]) (fun c => gap = c.1 ++ c.2.1) (fun c => c.2.1.length) ([], gap, t2, t2) ?kF ?kN ?kn ?kk ?kp ?_ ?kE
    case kF => exact FX3
    case kN => exact N2
    case kE => first | passes_own | with_unfolding_all passes_own
    case kn => exact fun _ h => h
    case kk => 
      intro p hp
      simp only [List.mem_cons, List.not_mem_nil, or_false] at hp
      rcases hp with rfl | rfl | rfl
      · rfl
      · exact kk_int rfl (by simp [rend])
      · exact kk_bnone (t := t2) rfl rfl
    case kp => rfl
    clear FX3 N2
    rintro ⟨done, todo, ct, bt⟩ u' h' tk' hgap FX3 N3
    dsimp only [kstB] at FX3 hgap ⊢
    have hA' : AtU text (k + ((rend done).length : Int)) (todo ++ rest) := AtU.move (by rw [← List.append_assoc, ← hgap]; exact hA)
    have ok' : okU (todo ++ rest) := okU_append (us := done) (by rw [← List.append_assoc, ← hgap]; exact ok)
    have hBC := bl_cases hA' (fun u hu => hg u (by rw [hgap]; exact List.mem_append.mpr (.inr hu))) hw ok'
    obtain ⟨hl', h0'⟩ := hA'.len
    generalize hcdef : k + ((rend done).length : Int) = c at FX3 hBC hl' h0'
    generalize hbdef : kof k (fbrk done) = ob at FX3
    rcases ob with _ | bb
    all_goals
      dsimp only [bval] at FX3
      rcases hBC with ⟨e1, e2⟩ | ⟨e1, e2, e3, e4⟩ | ⟨run, todo2, e, f, g1, g2, g3, g4, g5, g6, g7, g8, ⟨g9, g10⟩ | ⟨j, g9, g10⟩⟩ | ⟨u, todo2, e, f, g1, g2, g3, g4, g5, g6, g7, g8, g9, ⟨g10, g11⟩ | ⟨g10, g11⟩⟩
    all_goals
      try k_fold
  iterate 5 walk1
  k_extra "my while"
  · walk_at "my steps"
    have hend : gap = done := by rw [hgap, e1, List.append_nil]
    ktn_call 1 (hret _ ((_, tupO [.int c ct, .none]) :: news) _ _)
    refine ⟨_, ct, t2, ?_, ?_, rfl⟩
    · walk_at "my lt"
    · rw [hend, hcdef, hbdef]; rfl
  · walk_at "my steps"
    have hend : gap = done := by rw [hgap, e1, List.append_nil]
    ktn_call 1 (hret _ ((_, tupO [.int c ct, .none]) :: news) _ _)
    refine ⟨_, ct, t2, ?_, ?_, rfl⟩
    · walk_at "my lt"
    · rw [hend, hcdef, hbdef]; rfl
  · walk_at "my steps"
    rename Fr _ _ _ (fun y => _) => FE
    rename News _ _ _ _ => NE
    refine mw_end (done ++ run, todo2, _, bt) FE NE (by first | exact fun _ hp => hp | kcj_all) (by
      intro p hp
      simp only [List.mem_cons, List.not_mem_nil, or_false] at hp
      rcases hp with rfl | rfl | rfl
      · rfl
      · exact kk_int rfl (bl_at hcdef g7)
      · exact kk_bnone rfl (by rw [bl_br hcdef hbdef, g9]; rfl)) (by dsimp only; rw [hgap, g1, List.append_assoc]) (by dsimp only; rw [g1, List.length_append]; omega)
  · walk_at "my steps"
    rename Fr _ _ _ (fun y => _) => FE
    rename News _ _ _ _ => NE
    refine mw_end (done ++ run, todo2, _, _) FE NE (by first | exact fun _ hp => hp | kcj_all) (by
      intro p hp
      simp only [List.mem_cons, List.not_mem_nil, or_false] at hp
      rcases hp with rfl | rfl | rfl
      · rfl
      · exact kk_int rfl (bl_at hcdef g7)
      · exact kk_bsome rfl (by rw [bl_br hcdef hbdef, g9, g8, g10]; rfl)) (by dsimp only; rw [hgap, g1, List.append_assoc]) (by dsimp only; rw [g1, List.length_append]; omega)
  · walk_at "my steps"
    rename Fr _ _ _ (fun y => _) => FE
    rename News _ _ _ _ => NE
    refine mw_end (done ++ [u], todo2, _, bt) FE NE (by first | exact fun _ hp => hp | kcj_all) (by
      intro p hp
      simp only [List.mem_cons, List.not_mem_nil, or_false] at hp
      rcases hp with rfl | rfl | rfl
      · rfl
      · exact kk_int rfl (bl_at hcdef g8)
      · exact kk_bnone rfl (by rw [bl_br hcdef hbdef, fbrk_one, g10]; rfl)) (by dsimp only; rw [hgap, g1]; simp) (by dsimp only; rw [g1, List.length_cons]; omega)
  · walk_at "my steps"
    rename Fr _ _ _ (fun y => _) => FE
    rename News _ _ _ _ => NE
    refine mw_end (done ++ [u], todo2, _, _) FE NE (by first | exact fun _ hp => hp | kcj_all) (by
      intro p hp
      simp only [List.mem_cons, List.not_mem_nil, or_false] at hp
      rcases hp with rfl | rfl | rfl
      · rfl
      · exact kk_int rfl (bl_at hcdef g8)
      · exact kk_bsome rfl (by rw [bl_br hcdef hbdef, fbrk_one, g10]; simp [kof])) (by dsimp only; rw [hgap, g1]; simp) (by dsimp only; rw [g1, List.length_cons]; omega)
  · walk_at "my steps"
    have hend : gap = done := by rw [hgap, e1, List.append_nil]
    ktn_call 1 (hret _ ((_, tupO [.int c ct, .int bb bt]) :: news) _ _)
    refine ⟨_, ct, bt, ?_, ?_, rfl⟩
    · walk_at "my lt"
    · rw [hend, hcdef, hbdef]; rfl
  · walk_at "my steps"
    have hend : gap = done := by rw [hgap, e1, List.append_nil]
    ktn_call 1 (hret _ ((_, tupO [.int c ct, .int bb bt]) :: news) _ _)
    refine ⟨_, ct, bt, ?_, ?_, rfl⟩
    · walk_at "my lt"
    · rw [hend, hcdef, hbdef]; rfl
  · walk_at "my steps"
    rename Fr _ _ _ (fun y => _) => FE
    rename News _ _ _ _ => NE
    refine mw_end (done ++ run, todo2, _, bt) FE NE (by first | exact fun _ hp => hp | kcj_all) (by
      intro p hp
      simp only [List.mem_cons, List.not_mem_nil, or_false] at hp
      rcases hp with rfl | rfl | rfl
      · rfl
      · exact kk_int rfl (bl_at hcdef g7)
      · exact kk_bsome rfl (by rw [bl_br hcdef hbdef]; rfl)) (by dsimp only; rw [hgap, g1, List.append_assoc]) (by dsimp only; rw [g1, List.length_append]; omega)
  · walk_at "my steps"
    rename Fr _ _ _ (fun y => _) => FE
    rename News _ _ _ _ => NE
    refine mw_end (done ++ run, todo2, _, bt) FE NE (by first | exact fun _ hp => hp | kcj_all) (by
      intro p hp
      simp only [List.mem_cons, List.not_mem_nil, or_false] at hp
      rcases hp with rfl | rfl | rfl
      · rfl
      · exact kk_int rfl (bl_at hcdef g7)
      · exact kk_bsome rfl (by rw [bl_br hcdef hbdef]; rfl)) (by dsimp only; rw [hgap, g1, List.append_assoc]) (by dsimp only; rw [g1, List.length_append]; omega)
  · walk_at "my steps"
    rename Fr _ _ _ (fun y => _) => FE
    rename News _ _ _ _ => NE
    refine mw_end (done ++ [u], todo2, _, bt) FE NE (by first | exact fun _ hp => hp | kcj_all) (by
      intro p hp
      simp only [List.mem_cons, List.not_mem_nil, or_false] at hp
      rcases hp with rfl | rfl | rfl
      · rfl
      · exact kk_int rfl (bl_at hcdef g8)
      · exact kk_bsome rfl (by rw [bl_br hcdef hbdef]; rfl)) (by dsimp only; rw [hgap, g1]; simp) (by dsimp only; rw [g1, List.length_cons]; omega)
  · walk_at "my steps"
    rename Fr _ _ _ (fun y => _) => FE
    rename News _ _ _ _ => NE
    refine mw_end (done ++ [u], todo2, _, bt) FE NE (by first | exact fun _ hp => hp | kcj_all) (by
      intro p hp
      simp only [List.mem_cons, List.not_mem_nil, or_false] at hp
      rcases hp with rfl | rfl | rfl
      · rfl
      · exact kk_int rfl (bl_at hcdef g8)
      · exact kk_bsome rfl (by rw [bl_br hcdef hbdef]; rfl)) (by dsimp only; rw [hgap, g1]; simp) (by dsimp only; rw [g1, List.length_cons]; omega)
theorem fresh_sign : True := by
  w_top off
  k_with_none
  trivial
theorem kst_self {m : Str → Option Value} {ps : List (Str × Value)} (hk : ∀ p ∈ ps, m p.1 = some p.2) : m = kstB m ps := (funext fun _ => kstB_eq hk fun _ => rfl).symm
section
variable {prog : Program} {w : World} {A : Around} {env : Env}
theorem For_inv3F {E : Value → Shared → Prop} {Q : Flow → Shared → Prop} {s : Shared} {x : Str} {px pos : Pos} {iter : Expr} {body : List Stmt} {h₀ : Heap} {L : Addr} {m : Str → Option Value} (_F : Fr h₀ L s.heap m) (hx : env.kindOf x = some .local)
    (hp : (env.scope.kind == .class || (env.scope.kind == .module && env.locals != env.globals)) = false)
    (h : wpAny (model prog w) A (eval iter env) (fun xv s₁ => wpAny (model prog w) A (pyIter xv) (fun it s₂ => LoopAt3 prog w A h₀ env x body Q E it s₂) E s₁) E s)
    (hs : ∀ x, foldedSetIterable iter env x = pure x := by intro _; rfl)
    (hE : PassesOwn (model prog w) A env E := by passes_own) :
    wpAny (model prog w) A (exec (.For (.Name x px) iter body [] pos) env) Q E s := For_inv3 h₀ hx hp h hs hE
end
def signsV : List Value := [.str (Str.ofString "<<=") 298, .str (Str.ofString ">>=") 299, .str (Str.ofString "&^=") 300, .str (Str.ofString "...") 301, .str (Str.ofString "&&") 302, .str (Str.ofString "||") 303, .str (Str.ofString "<-") 304, .str (Str.ofString "++") 305, .str (Str.ofString "--") 306, .str (Str.ofString "==") 307, .str (Str.ofString "!=") 308, .str (Str.ofString "<=") 309, .str (Str.ofString ">=") 310, .str (Str.ofString ":=") 311, .str (Str.ofString "+=") 312, .str (Str.ofString "-=") 313, .str (Str.ofString "*=") 314, .str (Str.ofString "/=") 315, .str (Str.ofString "%=") 316, .str (Str.ofString "&=") 317, .str (Str.ofString "|=") 318, .str (Str.ofString "^=") 319, .str (Str.ofString "<<") 320, .str (Str.ofString ">>") 321, .str (Str.ofString "&^") 322, .str (Str.ofString "+") 323, .str (Str.ofString "-") 324, .str (Str.ofString "*") 325, .str (Str.ofString "/") 326, .str (Str.ofString "%") 327, .str (Str.ofString "&") 328, .str (Str.ofString "|") 329, .str (Str.ofString "^") 330, .str (Str.ofString "<") 331, .str (Str.ofString ">") 332, .str (Str.ofString "=") 333, .str (Str.ofString "!") 334, .str (Str.ofString "(") 335, .str (Str.ofString ")") 336, .str (Str.ofString "[") 337, .str (Str.ofString "]") 338, .str (Str.ofString "{") 339, .str (Str.ofString "}") 340, .str (Str.ofString ",") 341, .str (Str.ofString ";") 342, .str (Str.ofString ".") 343, .str (Str.ofString ":") 344]
def strOf : Value → Str
  | .str x _ => x
  | _ => Str.empty
def signsS : List Str := signsV.map strOf
theorem signs_are : AreOf ItemKind.str signsV signsS := by
  unfold signsS signsV
  simp only [List.map_cons, List.map_nil, strOf]
  repeat (first | exact .nil | refine .cons ⟨_, rfl⟩ ?_)
abbrev mtch (x : Str) (k : Int) (sg : Str) : Bool := Txt.slice x (some k) (some (k + (sg.length : Int))) == sg
theorem find_at {p : Str → Bool} {as : List Str} {i : Nat} {a b : Str} (hf : as.find? p = some b) (ha : as[i]? = some a) (hn : ∀ c ∈ as.take i, p c = false) (hp : p a = true) : a = b := by
  have hi : i < as.length := (List.getElem?_eq_some_iff.mp ha).1
  have e : as = as.take i ++ a :: as.drop (i + 1) := by
    have := (List.getElem?_eq_some_iff.mp ha).2
    rw [← this, ← List.drop_eq_getElem_cons hi, List.take_append_drop]
  rw [e, List.find?_append, List.find?_eq_none.mpr (fun c hc => by rw [hn c hc]; decide)] at hf
  simpa [List.find?_cons, hp] using hf
theorem signs_len : ∀ c ∈ signsS, 1 ≤ c.length ∧ c.length ≤ 3 := by decide
def SgJ (text : Str) (k : Int) (t1 t2 : Tok) (news : List (Addr × Obj)) (i : Nat) (m : Str → Option Value) (nx : List (Addr × Obj)) : Prop :=
  (∀ p ∈ [(Str.ofString "text", Value.str text t1), (Str.ofString "at", Value.int k t2)], m p.1 = some p.2) ∧ nx = news ∧ ∀ c ∈ signsS.take i, mtch text k c = false
theorem take_next {as : List Str} {i : Nat} {a : Str} {p : Str → Bool} (ha : as[i]? = some a) (hn : ∀ c ∈ as.take i, p c = false) (hp : p a = false) : ∀ c ∈ as.take (i + 1), p c = false := by
  intro c hc
  rw [List.take_add_one, ha] at hc
  rcases List.mem_append.mp hc with hc | hc
  · exact hn c hc
  · simp at hc; rw [hc]; exact hp
theorem fresh_rsign : True := by
  w_top off
  k_with_none
  trivial
set_option maxHeartbeats 8000000 in
theorem sign_tel (prog : Program) (w : World) (news : List (Addr × Obj)) (text : Str) (k : Int) (t1 t2 : Tok) (sg0 : Str) (h0 : 0 ≤ k) (h1 : k ≤ text.length) (h2 : text.length < 100000) (hf : signsS.find? (mtch text k) = some sg0) :
  Tel prog w 160 1 news [.str text t1, .int k t2] (fun r nw => ∃ a1 a2 u1 u2 u3 u4, (∀ q ∈ news, q.1 < a1) ∧ a1 < a2 ∧ nw = (a2, tupO [.ref a1, .int (k + (sg0.length : Int)) u1]) :: (a1, tupO [.str (Str.ofString "sign") u2, .str sg0 u3, .int k u4, .none]) :: news ∧ r = .ref a2) := by
  unfold Tel
  intro p loose mean mg mb dp un gd cn cs a ccd cl outer A₀ base h₀ L m s Q E B F X N T hk hdp hun hret
  refine wpAny_call ?_
  k_dflt ktr_enter
  rename Fr _ _ _ (fun y => _) => FX
  obtain ⟨u, FX2⟩ := kst_ex [(Str.ofString "text", .str text t1), (Str.ofString "at", .int k t2)] FX (by kst_all)
  clear FX
  k_with_none
  k_with "my forhead" =>
    rename Fr _ _ _ _ => lF
    with_unfolding_all refine' For_inv3F lF ?k1 ?k2 ?_
    case k1 => exact rfl
    case k2 => exact rfl
  k_with "my for" =>
    rename Fr _ _ _ _ => lF
    rename News _ _ _ _ => lN
    refine' Iter_tupleD3 (vs := signsV) (as := signsS) (K := ItemKind.str) ?q1 ?q2 signs_are lF lN (SgJ text k t1 t2 news) ⟨by kst_all, rfl, by intro c hc; cases hc⟩ ?q3 ?q4
    case q1 => exact rfl
    case q2 => exact tupK (by k_asm) (by k_is)
    case q4 =>
      intro h' tk m' news' _ _ _ hJ
      have hno := hJ.2.2
      rw [List.take_length] at hno
      have : signsS.find? (mtch text k) = none := List.find?_eq_none.mpr (fun c hc => by rw [hno c hc]; decide)
      rw [this] at hf
      cases hf
    intro i sg v m₁ news₁ s₁ own hs₁ hsg hv hJ _ _ F₁ N₁
    obtain ⟨hm, hnx, hno⟩ := hJ
    subst news₁
    obtain ⟨u', e'⟩ : ∃ u', m₁ = kstB u' [(Str.ofString "text", Value.str text t1), (Str.ofString "at", Value.int k t2)] := ⟨_, kst_self hm⟩
    subst m₁
    clear hm
    obtain ⟨hln1, hln2⟩ := signs_len _ (List.mem_of_getElem? hsg)
    obtain ⟨tv, rfl⟩ := hv
    obtain ⟨hh, tkk, rfl⟩ := hs₁
    dsimp only [kstB] at F₁ N₁
    clear lF lN
    try k_fold
  walk_at "my steps"
  · have e := find_at hf hsg hno (by assumption)
    subst sg0
    ktn_call 1 (hret _ ((_, tupO [.ref _, .int (k + (sg.length : Int)) _]) :: (_, tupO [.str (Str.ofString "sign") _, .str sg tv, .int k t2, .none]) :: news) _ _)
    rename (∀ (p : Addr × Obj), p ∈ own ++ news → p.1 < _) => z9
    rename (_ ∧ AllLt _ (own ++ news)) => z8
    exact ⟨_, _, _, _, _, _, fun q hq => z9 q (List.mem_append.mpr (.inr hq)), z8.1, rfl, rfl⟩
  · exact ⟨by kst_all, rfl, take_next hsg hno (by assumption)⟩
local macro_rules | `(tactic| walk_at "call ref") => `(tactic| k_extra "my call")
local macro_rules | `(tactic| walk_at "compareOp Eq str str") => `(tactic| k_extra "my cmp")
local macro_rules | `(tactic| walk_at "compareOp NotEq str str") => `(tactic| k_extra "my cmp")
local macro_rules | `(tactic| walk_at "compareOp In str str") => `(tactic| k_extra "my cmp")
local macro_rules | `(tactic| walk_at "compareOp In str ref") => `(tactic| k_extra "my cmp")
local macro_rules | `(tactic| walk_at "compareOp NotIn str ref") => `(tactic| k_extra "my cmp")
theorem fresh_wfacts : True := by
  w_top off
  k_with_none
  trivial
theorem AtU.slice2 {x : Str} {c : Int} {us : List U} (h : AtU x c us) {i n : Nat} (hi : i ≤ (rend us).length) : Txt.slice x (some (c + i)) (some (c + i + n)) = ⟨(((rend us).drop i).take n).toArray⟩ := by
  obtain ⟨hl, h0⟩ := h.len
  have := slice_L (x := x) (c := c + i) (n := n) (by omega) (by omega) (by omega)
  rw [this]
  have e : (c + (i : Int)).toNat = i + c.toNat := by omega
  rw [e, Nat.add_comm, ← List.drop_drop, h.drop]
  congr 3
theorem fresh_parts : True := by
  w_top off
  k_with_none
  trivial
set_option maxHeartbeats 8000000 in
theorem parts_tel (prog : Program) (w : World) (news : List (Addr × Obj)) (t1 : Tok) :
  Tel prog w 104 1 news [.str (Str.ofString "7") t1] (fun r nw => ∃ a1 u1 u2, (∀ q ∈ news, q.1 < a1) ∧ nw = (a1, tupO [.int 10 u1, .str (Str.ofString "7") u2]) :: news ∧ r = .ref a1) := by
  unfold Tel
  intro p loose mean mg mb dp un gd cn cs a ccd cl outer A₀ base h₀ L m s Q E B F X N T hk hdp hun hret
  refine wpAny_call ?_
  k_dflt ktr_enter
  rename Fr _ _ _ (fun y => _) => FX
  obtain ⟨u, FX2⟩ := kst_ex [(Str.ofString "word", .str (Str.ofString "7") t1)] FX (by kst_all)
  clear FX
  dsimp only [kstB] at FX2
  k_with_none
  walk_at "my steps"
  ktn_call 1 (hret _ ((_, tupO [.int 10 _, .str (Str.ofString "7") t1]) :: news) _ _)
  exact ⟨_, _, _, by walk_at "my lt", rfl, rfl⟩
local macro_rules | `(tactic| walk_at "call ref") => `(tactic| (k_here; (with_reducible show wpAny _ _ (PySem.call (Value.ref 104) _ _) _ _ _); ktn_call 0 (parts_tel _ _ _ _); intro r9 n9 h9 tk9 F9 N9 P9; (try dsimp only at P9); obtain ⟨a9, u9, v9, l9, e9, e8⟩ := P9; subst n9; subst e8; (try k_sweep)))
theorem fresh_worth : True := by
  w_top off
  k_with_none
  trivial
set_option maxHeartbeats 8000000 in
theorem worth_tel (prog : Program) (w : World) (news : List (Addr × Obj)) (t1 : Tok) :
  Tel prog w 97 1 news [.str (Str.ofString "7") t1] (fun r nw => nw = news ∧ ∃ u1, r = .int 7 u1) := by
  unfold Tel
  intro p loose mean mg mb dp un gd cn cs a ccd cl outer A₀ base h₀ L m s Q E B F X N T hk hdp hun hret
  refine wpAny_call ?_
  k_dflt ktr_enter
  rename Fr _ _ _ (fun y => _) => FX
  obtain ⟨u, FX2⟩ := kst_ex [(Str.ofString "sign", .str (Str.ofString "7") t1)] FX (by kst_all)
  clear FX
  dsimp only [kstB] at FX2
  k_with_none
  walk_at "my steps"
  exact hret _ _ _ _ (by k_asm) (by k_asm) ⟨rfl, _, rfl⟩
local macro_rules | `(tactic| walk_at "call ref") => `(tactic| (k_here; (with_reducible show wpAny _ _ (PySem.call (Value.ref 97) _ _) _ _ _); ktn_call 0 (worth_tel _ _ _ _); intro r9 n9 h9 tk9 F9 N9 P9; (try dsimp only at P9); obtain ⟨e9, u9, e8⟩ := P9; subst n9; subst e8; (try k_sweep)))
theorem fresh_number : True := by
  w_top off
  k_with_none
  trivial
set_option maxHeartbeats 8000000 in
theorem number_tel (prog : Program) (w : World) (news : List (Addr × Obj)) (text : Str) (k : Int) (t1 t2 : Tok) (h0 : 0 ≤ k) (h1 : k + 1 ≤ text.length) (h2 : text.length < 100000)
  (hb : rb text (Str.ofString "abcdefghijklmnopqrstuvwxyzABCDEFGHIJKLMNOPQRSTUVWXYZ_0123456789") k = k + 1)
  (hs : Txt.slice text (some k) (some (k + 1)) = Str.ofString "7") (hn : (Txt.slice text (some (k + 1)) (some (k + 1 + 1)) == Str.ofString ".") = false) :
  Tel prog w 111 3 news [.str text t1, .int k t2] (fun r nw => ∃ a1 a2 u1 u2 u3 u4 u5, (∀ q ∈ news, q.1 < a1) ∧ a1 < a2 ∧ nw = (a2, tupO [.ref a1, .int (k + 1) u1]) :: (a1, tupO [.str (Str.ofString "int") u2, .str (Str.ofString "7") u3, .int k u4, .int 7 u5]) :: news ∧ r = .ref a2) := by
  unfold Tel
  intro p loose mean mg mb dp un gd cn cs a ccd cl outer A₀ base h₀ L m s Q E B F X N T hk hdp hun hret
  refine wpAny_call ?_
  k_dflt ktr_enter
  rename Fr _ _ _ (fun y => _) => FX
  obtain ⟨u, FX2⟩ := kst_ex [(Str.ofString "text", .str text t1), (Str.ofString "begin", .int k t2)] FX (by kst_all)
  clear FX
  dsimp only [kstB] at FX2
  k_with_none
  k_with "no gen" => skip
  k_with "my call" =>
    rw [hs]
  k_with "my unr" =>
    rename News _ _ _ _ => lN
    rename (_ ∧ AllLt _ news) => l1
    refine UnrEnd.intro (by assumption) lN news (by kcj_all) (fun p hp => Nat.ne_of_lt (ktn_ltOf l1.2 p hp)) ?_
  walk_at "my steps"
  rename News h₀ L _ _ => kN
  rw [hs] at kN
  rename (_ ∧ AllLt _ news) => z8
  exact hret _ _ _ _ (by k_asm) kN ⟨_, _, _, _, _, _, _, by assumption, z8.1, rfl, rfl⟩
theorem fresh_plain : True := by
  w_top off
  k_with_none
  trivial
set_option maxHeartbeats 8000000 in
theorem right_tel (prog : Program) (w : World) (news : List (Addr × Obj)) (d : Nat) (t1 : Tok) (hd : d < 55296) :
  Tel prog w 58 1 news [.int (d : Int) t1] (fun r nw => nw = news ∧ r = .bool true) := by
  unfold Tel
  intro p loose mean mg mb dp un gd cn cs a ccd cl outer A₀ base h₀ L m s Q E B F X N T hk hdp hun hret
  refine wpAny_call ?_
  k_dflt ktr_enter
  rename Fr _ _ _ (fun y => _) => FX
  obtain ⟨u, FX2⟩ := kst_ex [(Str.ofString "rune", .int (d : Int) t1)] FX (by kst_all)
  clear FX
  dsimp only [kstB] at FX2
  k_with_none
  walk_at "my steps"
  exact hret _ _ _ _ (by k_asm) (by k_asm) ⟨rfl, congrArg Value.bool (by rw [Bool.not_eq_true', decide_eq_false_iff_not]; omega)⟩
local macro_rules | `(tactic| walk_at "call ref") => `(tactic| (k_here; (with_reducible show wpAny _ _ (PySem.call (Value.ref 58) _ _) _ _ _); ktn_call 0 (right_tel _ _ _ _ _ (by assumption)); intro r9 n9 h9 tk9 F9 N9 P9; (try dsimp only at P9); obtain ⟨e9, e8⟩ := P9; subst n9; subst e8; (try k_sweep)))
theorem fresh_plain2 : True := by
  w_top off
  k_with_none
  trivial
set_option maxHeartbeats 8000000 in
theorem plain_tel (prog : Program) (w : World) (news : List (Addr × Obj)) (text : Str) (c : Int) (d : Nat) (t1 t2 : Tok) (hi : Txt.item text c = ⟨#[d]⟩) (hd : d < 55296) (h0 : 0 ≤ c) (h1 : c < text.length) (h2 : text.length < 100000) :
  Tel prog w 132 2 news [.str text t1, .int c t2] (fun r nw => nw = news ∧ ∃ u, r = .int (d : Int) u) := by
  unfold Tel
  intro p loose mean mg mb dp un gd cn cs a ccd cl outer A₀ base h₀ L m s Q E B F X N T hk hdp hun hret
  refine wpAny_call ?_
  k_dflt ktr_enter
  rename Fr _ _ _ (fun y => _) => FX
  obtain ⟨u, FX2⟩ := kst_ex [(Str.ofString "text", .str text t1), (Str.ofString "at", .int c t2)] FX (by kst_all)
  clear FX
  dsimp only [kstB] at FX2
  have hi' : (Txt.item text c).cps.getD 0 0 = d := by rw [hi]; rfl
  k_with_none
  k_with "my call" => rw [hi']
  walk_at "my steps"
  exact hret _ _ _ _ (by k_asm) (by k_asm) ⟨rfl, _, congrArg (fun n : Nat => Value.int (n : Int) _) hi'⟩
local macro_rules | `(tactic| walk_at "call ref") => `(tactic| (k_here; (with_reducible show wpAny _ _ (PySem.call (Value.ref 132) _ _) _ _ _); ktn_call 0 (plain_tel _ _ _ _ _ _ _ _ (by assumption) (by first | assumption | decide) (by omega) (by omega) (by omega)); intro r9 n9 h9 tk9 F9 N9 P9; (try dsimp only at P9); obtain ⟨e9, u9, e8⟩ := P9; subst n9; subst e8; (try k_sweep)))
theorem fresh_rune : True := by
  w_top off
  k_with_none
  trivial
set_option maxHeartbeats 8000000 in
theorem rune_tel (prog : Program) (w : World) (news : List (Addr × Obj)) (text : Str) (k : Int) (t1 t2 : Tok) (h0 : 0 ≤ k) (h1 : k + 3 ≤ text.length) (h2 : text.length < 100000)
  (hs1 : Txt.slice text (some (k + 1)) (some (k + 1 + 1)) = Str.ofString "}") (hi1 : Txt.item text (k + 1) = ⟨#[125]⟩) (hs2 : Txt.slice text (some (k + 1 + 1)) (some (k + 1 + 1 + 1)) = Str.ofString "'") (hs3 : Txt.slice text (some k) (some (k + 1 + 1 + 1)) = Str.ofString "'}'") :
  Tel prog w 153 3 news [.str text t1, .int k t2] (fun r nw => ∃ a1 a2 u1 u2 u3 u4 u5, (∀ q ∈ news, q.1 < a1) ∧ a1 < a2 ∧ nw = (a2, tupO [.ref a1, .int (k + 1 + 1 + 1) u1]) :: (a1, tupO [.str (Str.ofString "rune") u2, .str (Str.ofString "'}'") u3, .int k u4, .int (125 : Nat) u5]) :: news ∧ r = .ref a2) := by
  unfold Tel
  intro p loose mean mg mb dp un gd cn cs a ccd cl outer A₀ base h₀ L m s Q E B F X N T hk hdp hun hret
  refine wpAny_call ?_
  k_dflt ktr_enter
  rename Fr _ _ _ (fun y => _) => FX
  obtain ⟨u, FX2⟩ := kst_ex [(Str.ofString "text", .str text t1), (Str.ofString "begin", .int k t2)] FX (by kst_all)
  clear FX
  dsimp only [kstB] at FX2
  k_with_none
  k_with "my cmp" => rw [hi1]
  k_with "my cmp" => rw [hs1]
  k_with "my cmp" => rw [hs2]
  walk_at "my steps"
  rename News h₀ L _ _ => kN
  rw [hs3] at kN
  rename (_ ∧ _ ∧ _ ∧ AllLt _ news) => z8
  rename (_ ∧ _ ∧ AllLt _ news) => z7
  exact hret _ _ _ _ (by k_asm) (nw_22 kN) ⟨_, _, _, _, _, _, _, ktn_ltOf z7.2.2, z8.1, rfl, rfl⟩
theorem fresh_octets : True := by
  w_top off
  k_with_none
  trivial
set_option maxHeartbeats 8000000 in
theorem octets_tel (prog : Program) (w : World) (news : List (Addr × Obj)) (d : Nat) (t1 : Tok) (hd : d < 128) :
  Tel prog w 63 2 news [.int (d : Int) t1] (fun r nw => nw = news ∧ ∃ b u, r = .bytes b u ∧ b.size = 1) := by
  have hd' : d < 55296 := by omega
  unfold Tel
  intro p loose mean mg mb dp un gd cn cs a ccd cl outer A₀ base h₀ L m s Q E B F X N T hk hdp hun hret
  refine wpAny_call ?_
  k_dflt (walk_at "my enterC")
  k_with_none
  walk_at "my steps"
  ktn_call 1 (hret _ news _ _)
  exact ⟨rfl, _, _, rfl, rfl⟩
local macro_rules | `(tactic| walk_at "call ref") => `(tactic| (k_here; (with_reducible show wpAny _ _ (PySem.call (Value.ref 63) _ _) _ _ _); ktn_call 0 (octets_tel _ _ _ _ _ (by first | assumption | decide)); intro r9 n9 h9 tk9 F9 N9 P9; (try dsimp only at P9); obtain ⟨e9, b9, u9, e8, z9⟩ := P9; subst n9; subst e8; (try k_sweep)))
theorem fresh_clean : True := by
  w_top off
  k_with_none
  trivial
def codeC (M : Model) (A : Around) (c : Code) (R : Result → Shared → Prop) (s : Shared) : Prop :=
  ∀ Γ p, Γ.code = c → Γ.Below A → Cln Γ.below → wpCode M Γ R p s
section
variable {α β : Type} {M : Model} {A : Around} {s : Shared} {env : Env}
theorem cln_cons {c : Code} {p : Pos} {l : List (Code × Pos)} (h1 : isDec c = false) (h2 : Cln l) : Cln ((c, p) :: l) := by
  intro x hx
  rcases List.mem_cons.mp hx with rfl | hx
  · exact h1
  · exact h2 x hx
theorem wpC_of {t : Sem α} {Q : α → Shared → Prop} (h : wpAny M A t Q nev s) : wpC M A t Q s := fun Γ p hΓ _ _ => h Γ p hΓ
theorem wpC_mono {t : Sem α} {Q Q' : α → Shared → Prop} (h : wpC M A t Q s) (hQ : ∀ a s, Q a s → Q' a s) : wpC M A t Q' s :=
  fun Γ p hΓ h1 h2 => Sem.wp_mono M Γ t (fun a _ s => hQ a s) (fun _ _ _ x => x) p s (h Γ p hΓ h1 h2)
theorem wpC_bind {m : Sem α} {f : α → Sem β} {Q : β → Shared → Prop} (h : wpC M A m (fun a s' => wpC M A (f a) Q s') s) : wpC M A (m >>= f) Q s := fun Γ p hΓ h1 h2 => by
  rw [Sem.wp_bind']
  exact Sem.wp_mono M Γ m (fun a p' s' h' => h' Γ p' hΓ h1 h2) (fun _ _ _ h' => h') p s (h Γ p hΓ h1 h2)
theorem wpC_bindL {m : Sem α} {f : α → Sem β} {Q : β → Shared → Prop} (h : wpAny M A m (fun a s' => wpC M A (f a) Q s') nev s) : wpC M A (m >>= f) Q s := wpC_bind (wpC_of h)
theorem wpC_pure {a : α} {Q : α → Shared → Prop} (h : Q a s) : wpC M A (pure a) Q s := wpC_of (wpAny_pure h)
theorem wpC_holding {vs : List Value} {t : Sem α} {Q : α → Shared → Prop} (h : wpC M A t Q s) : wpC M A (holding vs t) Q s := fun Γ p hΓ h1 h2 => by
  rw [Sem.wp_holding]; exact h Γ p hΓ h1 h2
theorem wpC_onRaise {t : Sem α} {k : Value → Sem Unit} {Q : α → Shared → Prop} (h : wpC M A t Q s) : wpC M A (t.onRaise k) Q s := fun Γ p hΓ h1 h2 => by
  rw [Sem.wp_onRaise]
  exact Sem.wp_mono M Γ t (fun _ _ _ x => x) (fun _ _ _ x => x.elim) p s (h Γ p hΓ h1 h2)
theorem wpC_run {c : Code} {Q : Flow → Shared → Prop} (hc : codeC M (A.mark none) c (fun r s' => match r with | .ok f => Q f s' | .error _ => False) s) : wpC M A (run c) Q s := fun Γ p hΓ h1 h2 => by
  rw [Sem.wp_run]
  exact wpCode_mono (fun r s' h => by cases r <;> exact h) (hc _ p rfl (hΓ.enter c none p (by intro x; cases x)) (cln_cons h1 h2))
theorem wpC_runOwn {c : Code} {Q : Flow → Shared → Prop} (hc : codeC M (A.mark none) c (fun r s' => match r with | .ok f => Q f s' | .error _ => False) s) : wpC M A (runOwn c env) Q s := by
  unfold runOwn
  exact wpC_onRaise (wpC_run hc)
theorem wpC_call {f : Value} {pos : List Value} {kw : List (Str × Value)} {Q : Value → Shared → Prop} (hc : codeC M A (.call f ⟨pos, kw⟩) (fun r s' => match r with | .ok (.ret v) => Q v s' | _ => False) s) : wpC M A (call f pos kw) Q s := fun Γ p hΓ h1 h2 => by
  show Sem.wp M Γ (runValue _) _ _ p s
  rw [Sem.wp_runValue]
  refine wpCode_mono (fun r s' h => ?_) (hc _ p rfl (hΓ.enter _ none p (by intro x; cases x)) (cln_cons h1 h2))
  cases r with
  | error e => exact h
  | ok f => cases f <;> exact h
theorem codeC_of_tree {c : Code} {R : Result → Shared → Prop} (hd : isDec c = false)
    (h : wpC M (A.under c) (M.den c) (fun fin s' => match fin with | .done f => R (.ok f) s' | .again c' => c'.quiet = true ∧ codeC M A c' R s') s) : codeC M A c R s := fun Γ p hc hΓ hb => by
  rw [wpCode_iff_wp, hc]
  refine Sem.wp_mono M Γ _ (fun fin p' s' h' => ?_) (fun _ _ _ h' => h'.elim) p s (h Γ p (hc ▸ hΓ.in) (hc ▸ hd) hb)
  cases fin with
  | done f => exact h'
  | again c' => exact ⟨h'.1, h'.2 (Γ.goto c') p' rfl (hΓ.goto c') hb⟩
theorem codeC_mono {c : Code} {R R' : Result → Shared → Prop} (h : codeC M A c R s) (hR : ∀ r s, R r s → R' r s) : codeC M A c R' s := fun Γ p hc hΓ hb => wpCode_mono hR (h Γ p hc hΓ hb)
theorem codeC_of {c : Code} {R : Result → Shared → Prop} (h : codeAny M A c R s) : codeC M A c R s := fun Γ p hc hΓ _ => h Γ p hc hΓ
theorem codeC_loop {c : Code} {R : Result → Shared → Prop} (hq : c.quiet = true) (hd : isDec c = false) (I : Nat → Shared → Prop)
    (turn : ∀ n s, I n s → wpC M (A.under c) (M.den c)
      (fun fin s' => match fin with | .done f => R (.ok f) s' | .again c' => (c' = c ∧ ∃ m, m < n ∧ I m s') ∨ (c'.quiet = true ∧ codeC M A c' R s')) s)
    (n : Nat) (h : I n s) : codeC M A c R s := by
  induction n using Nat.strongRecOn generalizing s with
  | ind n ih =>
    refine codeC_of_tree hd (wpC_mono (turn n s h) fun fin s' hf => ?_)
    cases fin with
    | done f => exact hf
    | again c' =>
      rcases hf with ⟨rfl, m, hm, hI⟩ | hf
      · exact ⟨hq, ih m hm hI⟩
      · exact hf

theorem wpC_execs_nil {Q : Flow → Shared → Prop} (h : Q .next s) : wpC M A (execs [] env) Q s := wpC_of (wpAny_execs_nil h)
theorem wpC_execs_cons {st : Stmt} {rest : List Stmt} {Q : Flow → Shared → Prop} (h : wpC M A (exec st env) (fun f s' => match f with | .next => wpC M A (execs rest env) Q s' | f => Q f s') s) : wpC M A (execs (st :: rest) env) Q s := by
  rw [execs_cons]
  refine wpC_bind (wpC_mono h fun f s' h' => ?_)
  cases f <;> first | exact h' | exact wpC_pure h'
theorem wpC_If {test : Expr} {body orelse : List Stmt} {pos : Pos} {Q : Flow → Shared → Prop}
    (h : wpC M A (isTrue test env (eval test env)) (fun b s₂ => if b = true then wpC M A (execs body env) Q s₂ else wpC M A (execs orelse env) Q s₂) s) : wpC M A (exec (.If test body orelse pos) env) Q s := by
  rw [exec_If]
  refine wpC_bind (wpC_of (wpAny_standAt ?_))
  refine wpC_bind (wpC_mono h fun b s' h' => ?_)
  cases b <;> simpa using h'
theorem wpC_Return {e : Expr} {pos : Pos} {Q : Flow → Shared → Prop} (h : wpC M A (eval e env) (fun v => Q (.ret v)) s) : wpC M A (exec (.Return (some e) pos) env) Q s := by
  rw [exec_Return_some]
  refine wpC_bind (wpC_of (wpAny_standAt ?_))
  exact wpC_bind (wpC_mono h fun v s' h' => wpC_pure h')
end
theorem fresh_crules : True := by
  w_top off
  k_with_none
  trivial
section
variable {prog : Program} {w : World} {α β : Type} {M : Model} {A : Around} {s : Shared} {env : Env}
theorem wpC_standAt {pos : Pos} {Q : Unit → Shared → Prop} (h : Q () s) : wpC M A (standAt pos) Q s := wpC_of (wpAny_standAt h)
theorem wpC_leaf {st : Stmt} {rest : List Stmt} {Q : Flow → Shared → Prop} (h : wpAny M A (exec st env) (fun f s' => match f with | .next => wpC M A (execs rest env) Q s' | f => Q f s') nev s) : wpC M A (execs (st :: rest) env) Q s := wpC_execs_cons (wpC_of h)
theorem wpC_IfL {test : Expr} {body orelse : List Stmt} {pos : Pos} {Q : Flow → Shared → Prop}
    (h : wpAny M A (isTrue test env (eval test env)) (fun b s₂ => if b = true then wpC M A (execs body env) Q s₂ else wpC M A (execs orelse env) Q s₂) nev s) : wpC M A (exec (.If test body orelse pos) env) Q s := wpC_If (wpC_of h)
theorem wpC_Assign_Name {x pos' value pos} {Q : Flow → Shared → Prop}
    (h : wpC M A (eval value env) (fun v s₁ => wpAny M A (storeName env x v) (fun _ => Q .next) nev s₁) s)
    (hs : swapsWith value (some (.Name x pos')) pos.line env = pure false := by rfl) :
    wpC M A (exec (.Assign [.Name x pos'] value pos) env) Q s := by
  rw [exec_Assign_Name env x pos' value pos hs]
  exact wpC_bind (wpC_standAt (wpC_bind (wpC_mono h fun v s₁ h₁ => wpC_bind (wpC_standAt (wpC_bind (wpC_of (wpAny_bindName (wpAny_mono h₁ (fun _ _ x => wpC_pure x) fun _ _ x => x))))))))
theorem wpC_operate {vs : List Value} {m : Sem Value} {Q : Value → Shared → Prop} (h : wpC M A m Q s) : wpC M A (operate vs m) Q s := fun Γ p hΓ h1 h2 => by
  rw [Sem.wp_operate]; exact h Γ p hΓ h1 h2
theorem wpC_AugAssign_Name {x pos' op value pos} {Q : Flow → Shared → Prop}
    (h : wpAny M A (loadName env x) (fun old s₁ => wpC M A (eval value env) (fun v s₂ => wpC M A (inplaceOp op old v)
      (fun r s₃ => wpAny M A (storeName env x r) (fun _ => Q .next) nev s₃) s₂) s₁) nev s) :
    wpC M A (exec (.AugAssign (.Name x pos') op value pos) env) Q s := by
  rw [exec_AugAssign_Name]
  refine wpC_bind (wpC_standAt (wpC_bind (wpC_of (wpAny_mono h (fun old s₁ h₁ => ?_) fun _ _ x => x))))
  refine wpC_bind (wpC_holding (wpC_mono h₁ fun v s₂ h₂ => wpC_bind (wpC_standAt (wpC_bind (wpC_operate (wpC_mono h₂ fun r s₃ h₃ => ?_))))))
  exact wpC_bind (wpC_standAt (wpC_bind (wpC_of (wpAny_bindName (wpAny_mono h₃ (fun _ _ x => wpC_pure x) fun _ _ x => x)))))
theorem wpC_Assign_Tuple {elts k tpos value pos} {Q : Flow → Shared → Prop}
    (h : wpC M A (eval value env) (fun v s₁ => wpAny M A (assign (.Tuple elts k tpos) env v) (fun _ => Q .next) nev s₁) s)
    (hs : swapsWithSole [.Tuple elts k tpos] value pos.line env = pure false := by rfl)
    (hw : swappedStores [.Tuple elts k tpos] value env = pure none := by rfl) :
    wpC M A (exec (.Assign [.Tuple elts k tpos] value pos) env) Q s := by
  rw [exec_Assign]
  refine wpC_bind (wpC_standAt ?_)
  rw [hs]
  refine wpC_bind (wpC_pure ?_)
  rw [if_neg (by decide)]
  refine wpC_bind (wpC_mono h (fun v s₁ h₁ => ?_))
  rw [hw]
  refine wpC_bind (wpC_pure ?_)
  show wpC M A (do assignAll v [assign (.Tuple elts k tpos) env]; pure .next) Q s₁
  exact wpC_bind (wpC_of (wpAny_mono h₁ (fun _ _ x => wpC_pure x) fun _ _ x => x))
theorem wpC_Assign_Tuple_swapped {elts k tpos value pos} {names : List Str} {Q : Flow → Shared → Prop}
    (h : wpC M A (eval value env) (fun v s₁ => wpAny M A (unpackItems v names.length none) (fun items s₂ =>
      wpAny M A (assignInOrder (names.reverse.map fun n => bindName env n) items.reverse) (fun _ => Q .next) nev s₂) nev s₁) s)
    (hs : swapsWithSole [.Tuple elts k tpos] value pos.line env = pure false := by rfl)
    (hw : swappedStores [.Tuple elts k tpos] value env = pure (some names) := by rfl) :
    wpC M A (exec (.Assign [.Tuple elts k tpos] value pos) env) Q s := by
  rw [exec_Assign]
  refine wpC_bind (wpC_standAt ?_)
  rw [hs]
  refine wpC_bind (wpC_pure ?_)
  rw [if_neg (by decide)]
  refine wpC_bind (wpC_mono h (fun v s₁ h₁ => ?_))
  rw [hw]
  refine wpC_bind (wpC_pure ?_)
  show wpC M A (do rule "assign.swapped-stores"; let items ← unpackItems v names.length none; assignInOrder (names.reverse.map fun n => bindName env n) items.reverse; pure .next) Q s₁
  exact wpC_bind (wpC_of (wpAny_rule (wpC_bind (wpC_of (wpAny_mono h₁ (fun items s₂ h₂ => wpC_bind (wpC_of (wpAny_mono h₂ (fun _ _ x => wpC_pure x) fun _ _ x => x))) fun _ _ x => x)))))
theorem wpC_callWith {P : Heap → Prop} {pos : Pos} {f : Value} {first : List Value} {args : List (Bool × Sem Value)} {keywords : List (Option Str × Sem Value)} {Q : Value → Shared → Prop} (hplain : (args.any (·.1) || keywords.any (·.1.isNone)) = false)
    (hk : ∀ h, P h → ∃ k, (k = Keeper.frame ∨ k = Keeper.machine ∨ k = Keeper.boundFrame) ∧ Looks M h (keeperOf f) k)
    (h : wpAny M A (evalArgs f true args keywords) (fun a s₁ => P s₁.heap ∧ wpC M A (call f (first ++ a.pos) a.kw) Q s₁) nev s) : wpC M A (callWith pos f first args keywords) Q s := by
  unfold callWith
  refine wpC_bind (wpC_holding (wpC_of (wpAny_mono h (fun a s₁ h₁ => wpC_bind (wpC_standAt ?_)) fun _ _ x => x)))
  obtain ⟨k, hk', L⟩ := hk _ h₁.1
  simp only [hplain]
  refine wpC_bind (wpC_of (L.here ?_))
  have tail : ∀ {t : Sem Value}, wpC M A t Q s₁ → wpC M A (t >>= fun r => holding [r] point >>= fun _ => pure r) Q s₁ :=
    fun ht => wpC_bind (wpC_mono ht (fun r s₂ hr => wpC_bind (wpC_holding (wpC_of (wpAny_point (wpC_pure hr))))))
  have marked (mk : Value) : wpC M A (callMarked mk f (first ++ a.pos) a.kw) Q s₁ := by unfold callMarked; exact fun Γ p hΓ h1 h2 => by rw [Sem.wp_keep]; exact h₁.2 Γ p hΓ h1 h2
  rcases hk' with rfl | rfl | rfl <;> dsimp only <;> first | exact tail h₁.2 | (split <;> first | exact tail h₁.2 | exact tail (marked _))
theorem wpC_Call_Name {id : Str} {p pos : Pos} {args : List Expr} {keywords : List Keyword} {Q : Value → Shared → Prop}
    (h : wpAny M A (eval (.Name id p) env) (fun f s₁ => wpC M A (callWith pos f [] (backTo pos (starEach args env)) (backToKw pos (keywordEach keywords env))) Q s₁) nev s) :
    wpC M A (eval (.Call (.Name id p) args keywords pos) env) Q s := by
  rw [arm_eval_Call_Name']
  exact wpC_bind (wpC_of h)
theorem wpC_callWith_K {K : Frag} {f : Value} {pos : Pos} {first : List Value} {e : Expr} {rest : List Expr} {Q : Value → Shared → Prop} (hk : keepIn K f = true) (h : wpAny M A (spliced (backTo pos (starEach (e :: rest) env))) (fun vs s₁ => K.In s₁.heap ∧ wpC M A (call f (first ++ vs)) Q s₁) nev s)
    (he : starEach (e :: rest) env = (false, eval e env) :: starEach rest env := by rfl) (hplain : (backTo pos (starEach rest env)).any (·.1) = false := by rfl) :
    wpC M A (callWith pos f first (backTo pos (starEach (e :: rest) env)) []) Q s := by
  rw [he] at h ⊢
  exact wpC_callWith (by show ((false || (backTo pos (starEach rest env)).any (·.1)) || false) = false; rw [hplain]; rfl) (keeps_K hk) (evalArgs_plain h)
theorem codeC_func {body env} {R : Result → Shared → Prop}
    (h : wpC (model prog w) (A.deeper env) (execs body env) (fun f s' => R (.ok (.ret (match f with | .ret v => v | _ => .none))) s') s) :
    codeC (model prog w) A (.func body env) R s := by
  refine codeC_of_tree rfl ?_
  show wpC _ (A.deeper env) (do point; match ← (execs body env).onRaise (leaving env) with | .ret v => ret v | _ => ret .none) _ s
  refine wpC_bind (wpC_of (wpAny_point (wpC_bind (wpC_onRaise (wpC_mono h (fun f s' h' => ?_))))))
  cases f <;> exact wpC_pure h'
theorem codeC_call_function {R : Result → Shared → Prop} {a : Addr} {args : Args} {o : Obj} {fd : FuncData} {body : List Stmt} (hroom : A.depth < recursionLimit)
    (ho : s.heap.get? a = some o)
    (hd' : o.data = .func fd) (hco : fd.scope.isCoroutine = false) (hgen : fd.scope.isGenerator = false) (hbody : fd.body = .stmts body) (hcd : s.heap.CodeRec fd.code fd.qualname)
    (h : wpAny (model prog w) A.in1 (bindArgs fd args) (fun binds s₁ =>
      wpAny (model prog w) A.in1 (newFunctionEnv fd.scope fd.globals fd.closure binds (fd.qualname ++ ".<locals>.") (some a) fd.code none fd.builtins)
        (fun env s₂ => s₂.heap.NoLimit ∧ codeC (model prog w) A (.func body env) R s₂) nev s₁) nev s) :
    codeC (model prog w) A (.call (.ref a) args) R s := by
  refine codeC_of_tree rfl (wpC_of ?_)
  show wpAny _ A.in1 (callAny (.ref a) args) _ _ s
  simp only [callAny]
  refine wpAny_bind (wpAny_load ho ?_)
  obtain ⟨c, oc, vs, tq, hc, hoc, hdc, hq⟩ := hcd
  simp only [hd', callFunction, hco, hgen, hbody, hc]
  rw [hc] at h
  refine wpAny_bind (m := field (.ref c) 1) (wpAny_field hoc hdc hq (wpAny_bind (wpAny_pure ?_)))
  exact wpAny_bind (wpAny_mono h (fun binds s₁ h₁ => wpAny_bind (wpAny_mono h₁ (fun env s₂ h₂ => wpAny_bind (wpAny_enterFrame h₂.1 hroom
    (wpAny_pure (And.intro rfl h₂.2)))) fun _ _ h' => h')) fun _ _ h' => h')
theorem codeC_call_def {R : Result → Shared → Prop} {a : Addr} {o : Obj} {fd : FuncData} {body : List Stmt} {args : Args} {binds : List (Str × Value)}
    (hroom : A.depth < recursionLimit) (ho : s.heap.get? a = some o) (hdata : o.data = .func fd) (hlim : s.heap.NoLimit) (hcd : s.heap.CodeRec fd.code fd.qualname)
    (hbody : fd.body = .stmts body) (hbind : BindsTo s fd args binds)
    (hcell : ∀ x ∈ fd.scope.names, x.2 ≠ .cell) (hloc : ∀ x ∈ binds, fd.scope.names.lookup x.1 = some .local)
    (h : ∀ h₀, h₀.Ns s.heap.objs.size (fun x => binds.reverse.lookup x) → (∀ b o, s.heap.get? b = some o → h₀.get? b = some o) →
      wpC (model prog w) (A.deeper (callEnv fd s.heap.objs.size a)) (execs body (callEnv fd s.heap.objs.size a)) (fun f s' => R (.ok (.ret (match f with | .ret v => v | _ => .none))) s')
        { s with heap := h₀, toks := s.toks + binds.length })
    (hco : fd.scope.isCoroutine = false := by rfl) (hgen : fd.scope.isGenerator = false := by rfl) (hk : fd.scope.kind = .function := by rfl) :
    codeC (model prog w) A (.call (.ref a) args) R s := by
  refine codeC_call_function hroom ho hdata hco hgen hbody hcd (hbind _ _ _ _ ?_)
  refine wpAny_newFunctionEnv hcell hloc (fun h₀ hns₀ hsb₀ => ⟨hlim.fresh _ hsb₀, codeC_func (h h₀ hns₀ fun b o e => ?_)⟩) hk
  exact hsb₀.extBut b o (Nat.ne_of_lt (Heap.lt_size e)) (Heap.get?_push_of_some _ e)
theorem codeC_def {A₀ : Around} {K : Frag} {L : Addr} {h₀ base : Heap} {m mg mb : Str → Option Value} {news : List (Addr × Obj)} {p : Program} {loose : List Str} {mean : ExcName → Option Value} {outer : List Env} {R : Result → Shared → Prop} {name qual : Str} {params : Arguments} {body : List Stmt} {scope : Scope} {dV kV doc pm cdv ct oc : Value} {an od : Option Addr} {osl : Array (Option Value)} {f : Addr} {args : Args} {binds : List (Str × Value)}
    (B : Below A₀ base outer h₀) (F : Fr h₀ L s.heap m) (X₀ : K.In h₀) (N : News h₀ L s.heap news) (T : Top p loose mean mg mb h₀) (hA : A.frames = some (env :: outer)) (hf : env.frame = some L) (hke : env.scope.kind = .function)
    (ho : K.lookup f = some ⟨oc, od, .func (fnOf name qual params body scope dV kV doc pm an cdv ct), osl⟩) (hcd : codeIn K cdv qual = true) (hroom : A.depth < recursionLimit)
    (hbind : BindsTo s (fnOf name qual params body scope dV kV doc pm an cdv ct) args binds) (hloc : ∀ y ∈ binds, scope.names.lookup y.1 = some .local)
    (h : ∀ g L' h₁, Fr h₀ L g m → Fr g L' h₁ (fun y => binds.reverse.lookup y) → News g L' h₁ news → Below A base (env :: outer) g → K.In g → Top p loose mean mg mb g → (∀ p ∈ news, p.1 < L') →
      wpC (model prog w) (A.deeper (envOf qual scope L' f cdv)) (execs body (envOf qual scope L' f cdv))
        (fun fl s' => LeaveK h₀ L m g R (match fl with | .ret v => v | _ => .none) s')
        { s with heap := h₁, toks := s.toks + binds.length })
    (hco : scope.isCoroutine = false) (hgen : scope.isGenerator = false) (hk : scope.kind = .function)
    (hcell : ∀ x ∈ scope.names, x.2 ≠ .cell) : codeC (model prog w) A (.call (.ref f) args) R s := by
  obtain ⟨FG, BG, st, lv⟩ := groundX (R := R) B F N hA hf hke
  refine codeC_call_def (fd := fnOf name qual params body scope dV kV doc pm an cdv ct) (body := body) (binds := binds) hroom ((X₀.keeps F.keep) _ _ ho) rfl (T.nolimit.keeps F.keep) (codeRec_of (X₀.keeps F.keep) hcd) rfl hbind hcell hloc (fun h₁ hns hk₁ => ?_) hco hgen hk
  exact wpC_mono (h _ s.heap.objs.size h₁ FG ⟨hns, fun b o e => hk₁ b o (of_hideAll _ e), Nat.le_of_eq (hideAll_size _ _)⟩
    (fun p hp => ⟨hk₁ _ _ (N p hp).1, Nat.ne_of_lt (Heap.lt_size (N p hp).1), hideAll_none _ (List.mem_map_of_mem hp)⟩) BG (X₀.keeps st) (T.keeps st) (fun p hp => Heap.lt_size (N p hp).1)) (fun fl s' hl => lv _ _ hl)
theorem codeC_whileLoop {R : Result → Shared → Prop} {test body env} (I : Nat → Shared → Prop)
    (turn : ∀ n s, I n s →
      wpC (model prog w) A (isTrue test env (eval test env)) (fun b s₂ =>
        if b = true then wpC (model prog w) A (execs body env) (fun f s₃ => match f with
            | .next | .cont => ∃ m, m < n ∧ I m s₃
            | .brk => R (.ok .next) s₃
            | .ret v => R (.ok (.ret v)) s₃) s₂
        else R (.ok .next) s₂) s)
    (n : Nat) (h : I n s) : codeC (model prog w) A (.whileLoop test body [] env) R s := by
  refine codeC_loop rfl rfl I (fun n s hI => ?_) n h
  show wpC _ A ((whileTurn test body [] env).onRaise (fun x => do noteFrame x env; theTreesLotGoes x)) _ s
  refine wpC_onRaise ?_
  simp only [whileTurn]
  refine wpC_bind (wpC_mono (turn n s hI) (fun b s₂ h₂ => ?_))
  cases b with
  | false =>
    simp only [Bool.false_eq_true, if_false] at h₂ ⊢
    exact wpC_bind (wpC_execs_nil (wpC_pure h₂))
  | true =>
    simp only [if_true] at h₂ ⊢
    refine wpC_bind (wpC_mono h₂ (fun f s₃ h₃ => ?_))
    cases f with
    | next => exact wpC_pure (.inl ⟨rfl, h₃⟩)
    | cont => exact wpC_pure (.inl ⟨rfl, h₃⟩)
    | brk => exact wpC_pure h₃
    | ret v => exact wpC_pure h₃
theorem wpC_While {Q : Flow → Shared → Prop} {h₀ : Heap} {L : Addr} {σ : Type} {test : Expr} {body : List Stmt} {pos : Pos} {m₀ : Str → Option Value} {news₀ : List (Addr × Obj)} (Led : σ → List (Addr × Obj)) (ps : σ → List (Str × Value)) (P : σ → Prop) (μ : σ → Nat) (c₀ : σ)
    (F : Fr h₀ L s.heap m₀) (N : News h₀ L s.heap news₀) (hn : ∀ p ∈ Led c₀, p ∈ news₀) (hk : ∀ p ∈ ps c₀, m₀ p.1 = some p.2) (hp : P c₀)
    (turn : ∀ (c : σ) (u : Str → Option Value) h tk, P c → Fr h₀ L h (kstB u (ps c)) → News h₀ L h (Led c) →
      wpC (model prog w) A (isTrue test env (eval test env)) (fun b s₂ =>
        if b = true then wpC (model prog w) A (execs body env) (MwPost h₀ L s Led ps P μ Q c) s₂ else Q .next s₂) { s with heap := h, toks := tk }) :
    wpC (model prog w) A (exec (.While test body [] pos) env) Q s := by
  rw [exec_While]
  refine wpC_bind (wpC_standAt (wpC_runOwn ?_))
  refine codeC_whileLoop (fun n s' => ∃ (c : σ) (h₁ : Heap) (tk : Nat) (m₁ : Str → Option Value), s' = { s with heap := h₁, toks := tk } ∧ μ c = n ∧ Fr h₀ L h₁ m₁ ∧ News h₀ L h₁ (Led c) ∧ (∀ p ∈ ps c, m₁ p.1 = some p.2) ∧ P c) ?_ (μ c₀) ⟨c₀, s.heap, s.toks, m₀, rfl, rfl, F, fun p hp => N p (hn p hp), hk, hp⟩
  rintro n s' ⟨c, h₁, tk, m₁, rfl, rfl, F₁, N₁, hk₁, hp₁⟩
  refine wpC_mono (turn c m₁ h₁ tk hp₁ (kst_put F₁ hk₁) N₁) (fun b s₂ p => ?_)
  cases b with
  | false => simpa using p
  | true =>
    simp only [if_true] at p ⊢
    refine wpC_mono p (fun f s₃ q => ?_)
    have fin : MwEnd h₀ L s Led ps P μ c s₃ → ∃ m, m < μ c ∧ ∃ (c : σ) (h₁ : Heap) (tk : Nat) (m₁ : Str → Option Value), s₃ = { s with heap := h₁, toks := tk } ∧ μ c = m ∧ Fr h₀ L h₁ m₁ ∧ News h₀ L h₁ (Led c) ∧ (∀ p ∈ ps c, m₁ p.1 = some p.2) ∧ P c := by
      rintro ⟨c', h', tk', m', news', rfl, F', N', hn', hk', hp9, hm9⟩
      exact ⟨μ c', hm9, c', h', tk', m', rfl, rfl, F', fun p hp => N' p (hn' p hp), hk', hp9⟩
    cases f with
    | ret v => exact q
    | brk => exact q
    | next => exact fin q
    | cont => exact fin q
end
theorem fresh_bfacts : True := by
  w_top off
  k_with_none
  trivial
namespace BF
theorem mro_ba : mroOf (.type "bytearray") = pure [.type "bytearray", .type "object"] := by rw [mroOf_type]; kernel_rfl
theorem lookup_ba_new : typeLookup (.type "bytearray") "__new__" = pure (some (.builtin "bytearray.__new__")) := by rw [typeLookup_type, builtinLookup_eq_fast]; kernel_rfl
theorem slot_ba_init : Slot "bytearray" "__init__" "bytearray.__init__" :=
  .of (owner := "bytearray") (n := "__init__") (by rw [typeLookup_type, builtinLookup_eq_fast]; kernel_rfl) (by decide +kernel) (by decide +kernel) (by decide +kernel)
    (by first | exact .inl (by decide +kernel) | exact .inr (by decide +kernel)) (by rw [isSubtype_type]; kernel_rfl)
theorem called_ba : TypeCalled "bytearray" "bytearray.__new__" "bytearray.__init__" :=
  ⟨by decide +kernel, by decide +kernel, ⟨_, _, mro_ba⟩, madeBy_type mro_ba lookup_ba_new (by decide +kernel), by decide +kernel, by rw [isSubtype_type]; kernel_rfl, slot_ba_init⟩
theorem typeCall_ba_0 : checkTypeCall "bytearray" ⟨[], []⟩ = pure () := by kernel_rfl
theorem newCall_ba_0 : checkBuiltinCall "bytearray.__new__" ⟨[.type "bytearray"], []⟩ = pure () := by kernel_rfl
theorem entry_ba_new : entryFor table "bytearray.__new__" = some Builtin.«list.__new__» :=
  entryFor_alias (id' := "list.__new__") (by rw [fastTable_eq_tree]; kernel_rfl) (by kernel_rfl) (by decide +kernel) (by rw [fastTable_eq_tree]; kernel_rfl)
theorem entry_ba_init : entryFor table "bytearray.__init__" = some Builtin.«bytearray.__init__» := entryFor_of_tree (by kernel_rfl)
theorem entry_ba_iadd : entryFor table "bytearray.__iadd__" = some Builtin.«bytearray.__iadd__» := entryFor_of_tree (by kernel_rfl)
theorem plain_ba_new : plainId "bytearray.__new__" = true := by decide +kernel
theorem plain_ba_init : plainId "bytearray.__init__" = true := by decide +kernel
theorem plain_ba_iadd : plainId "bytearray.__iadd__" = true := by decide +kernel
set_option maxRecDepth 1000000 in
set_option maxHeartbeats 4000000 in
theorem owner_ba_new : ("bytearray.__new__".splitOn ".__new__").headD "" = "bytearray" := by simp +decide [String.splitOn, String.splitOnAux]
theorem sub_ba_self : isSubtype (.type "bytearray") (.type "bytearray") = pure true := by rw [isSubtype_type]; kernel_rfl
theorem sub_b_self : isSubtype (.type "bytes") (.type "bytes") = pure true := by rw [isSubtype_type]; kernel_rfl
theorem rel_ba : typeLookup (.type "bytearray") "__release_buffer__" = pure (some (.builtin "bytearray.__release_buffer__")) := by rw [typeLookup_type, builtinLookup_eq_fast]; kernel_rfl
theorem rel_b : typeLookup (.type "bytes") "__release_buffer__" = pure none := by rw [typeLookup_type, builtinLookup_eq_fast]; kernel_rfl
theorem buf_ba : typeLookup (.type "bytearray") "__buffer__" = pure (some (.builtin "bytearray.__buffer__")) := by rw [typeLookup_type, builtinLookup_eq_fast]; kernel_rfl
theorem buf_b : typeLookup (.type "bytes") "__buffer__" = pure (some (.builtin "bytes.__buffer__")) := by rw [typeLookup_type, builtinLookup_eq_fast]; kernel_rfl
theorem iadd_ba : typeLookup (.type "bytearray") "__iadd__" = pure (some (.builtin "bytearray.__iadd__")) := by rw [typeLookup_type, builtinLookup_eq_fast]; kernel_rfl
theorem idx_b : typeLookup (.type "bytes") "__index__" = pure none := by rw [typeLookup_type, builtinLookup_eq_fast]; kernel_rfl
theorem idx_ba : typeLookup (.type "bytearray") "__index__" = pure none := by rw [typeLookup_type, builtinLookup_eq_fast]; kernel_rfl
theorem ends1 : "bytearray.__release_buffer__".endsWith ("." ++ "__release_buffer__") = true := by decide +kernel
theorem drop1 : "bytearray.__release_buffer__".dropRight ("__release_buffer__".length + 1) = "bytearray" := by decide +kernel
theorem ends2 : "bytearray.__buffer__".endsWith ("." ++ "__buffer__") = true := by decide +kernel
theorem drop2 : "bytearray.__buffer__".dropRight ("__buffer__".length + 1) = "bytearray" := by decide +kernel
theorem ends3 : "bytes.__buffer__".endsWith ("." ++ "__buffer__") = true := by decide +kernel
theorem drop3 : "bytes.__buffer__".dropRight ("__buffer__".length + 1) = "bytes" := by decide +kernel
theorem seq_ba : isSeqSlotId "bytearray.__iadd__" = true := by decide +kernel
end BF
theorem fresh_bytesof : True := by
  w_top off
  k_with_none
  trivial
namespace BF
theorem no_bytes_ba : typeLookup (.type "bytearray") "__bytes__" = pure none := by rw [typeLookup_type, builtinLookup_eq_fast]; kernel_rfl
end BF
def baObj (b : Array UInt8) : Obj := { cls := .type "bytearray", data := .bytearray b }
section
variable {prog : Program} {w : World} {A : Around} {E : Value → Shared → Prop} {s : Shared}
theorem ba_type {X : Addr} {b : Array UInt8} (hX : s.heap.get? X = some (baObj b)) : s.TypeIs (.ref X) "bytearray" := ⟨_, hX, rfl⟩
theorem ba_relOwn {M : Model} {X : Addr} {b : Array UInt8} {Q : Bool → Shared → Prop} (hX : s.heap.get? X = some (baObj b)) (h : Q false s) : wpAny M A (Builtin.Bytes.ownRelease (.ref X)) Q E s := by
  unfold Builtin.Bytes.ownRelease Builtin.Bytes.slotIsOwn
  refine wpAny_bind (wpAny_bind (wpAny_specialOf (ba_type hX) BF.rel_ba ?_))
  dsimp only
  rw [BF.drop1]
  refine bm_if_false (by rw [BF.ends1]; rfl) ?_
  refine wpAny_isInstance (ba_type hX) BF.sub_ba_self ?_
  exact wpAny_pure h
theorem ba_bufOwn {M : Model} {X : Addr} {b : Array UInt8} {Q : Bool → Shared → Prop} (hX : s.heap.get? X = some (baObj b)) (h : Q true s) : wpAny M A (Builtin.Bytes.slotIsOwn (.ref X) "__buffer__") Q E s := by
  unfold Builtin.Bytes.slotIsOwn
  refine wpAny_bind (wpAny_specialOf (ba_type hX) BF.buf_ba ?_)
  dsimp only
  rw [BF.drop2]
  refine bm_if_false (by rw [BF.ends2]; rfl) ?_
  exact wpAny_isInstance (ba_type hX) BF.sub_ba_self h
theorem ba_payload {M : Model} {X : Addr} {b : Array UInt8} {Q : Array UInt8 → Shared → Prop} (hX : s.heap.get? X = some (baObj b)) (h : Q b s) : wpAny M A (Builtin.Bytes.payload (.ref X)) Q E s := by
  unfold Builtin.Bytes.payload Builtin.Bytes.payload?
  refine wpAny_bind (wpAny_bind (wpAny_load hX ?_))
  exact wpAny_pure (wpAny_pure h)
theorem ba_bytes_new {X : Addr} {b : Array UInt8} {Q : Value → Shared → Prop} (hX : s.heap.get? X = some (baObj b)) (hz : b.size ≤ sizeLine) (hQ : ∀ t k, Q (.bytes b t) { s with toks := k }) :
    codeAny (model prog w) A (.call (.builtin "bytes.__new__") ⟨[.type "bytes", .ref X], []⟩) (wants Q E) s := by
  refine codeAny_of_tree ?_
  show wpAny _ A.in1 (do checkBuiltinCall "bytes.__new__" ⟨[.type "bytes", .ref X], []⟩; again (.builtin "bytes.__new__" ⟨[.type "bytes", .ref X], []⟩)) _ _ s
  refine wpAny_bind (wpAny_of_eq (F.bm_newCall _) (wpAny_pure ⟨plainId_quiet F.bm_plain _, codeAny_builtin F.bm_entry ?_⟩))
  rw [Around.under_plainId F.bm_plain _]
  have hT := ba_type hX
  unfold Builtin.«bytes.__new__»
  refine wpAny_bind (wpAny_of_eq (a := true) rfl ?_)
  refine bm_if_false rfl ?_
  refine wpAny_bind (wpAny_of_eq F.bm_sub ?_)
  refine bm_if_false rfl ?_
  refine wpAny_bind (wpAny_of_eq (F.bm_bind _) ?_)
  refine wpAny_bind (wpAny_of_eq (a := ()) rfl ?_)
  refine wpAny_bind (wpAny_of_eq (a := ()) rfl ?_)
  refine bm_if_false rfl ?_
  refine wpAny_bind (wpAny_specialOf hT BF.no_bytes_ba ?_)
  refine wpAny_bind (wpAny_bind ?_)
  show wpAny _ _ (load X >>= _) _ _ _
  refine wpAny_bind (wpAny_load hX ?_)
  refine wpAny_pure (wpAny_pure ?_)
  refine bm_if_false rfl ?_
  refine wpAny_bind (wpAny_specialOf hT BF.idx_ba ?_)
  refine bm_if_true rfl ?_
  first
    | show wpAny _ _ (Builtin.Bytes.buffer? "bytes.__new__" (.ref X) true >>= _) _ _ _
    | (refine wpAny_bind ?_; show wpAny _ _ (Builtin.Bytes.buffer? "bytes.__new__" (.ref X) true >>= _) _ _ _)
  refine wpAny_bind ?_
  unfold Builtin.Bytes.buffer?
  refine wpAny_bind (wpAny_specialOf hT BF.buf_ba ?_)
  dsimp only
  refine wpAny_bind (ba_bufOwn hX ?_)
  refine bm_if_false rfl ?_
  refine wpAny_bind (wpAny_specialOf hT BF.buf_ba ?_)
  refine wpAny_bind (ba_relOwn hX ?_)
  refine bm_if_false rfl ?_
  refine wpAny_bind (ba_payload hX ?_)
  refine wpAny_pure ?_
  refine wpAny_bind (wpAny_rule ?_)
  refine wpAny_bind (wpAny_mkBytes ?_ hz)
  show wpAny _ _ (if (Value.type "bytes" == Value.type "bytes") = true then _ else _) _ _ _
  refine bm_if_true (by decide) ?_
  first
    | exact wpAny_pure (hQ _ _)
    | exact wpAny_bind (wpAny_pure (wpAny_pure (hQ _ _)))
theorem call_bytes_ba {X : Addr} {b : Array UInt8} {Q : Value → Shared → Prop} (hX : s.heap.get? X = some (baObj b)) (hz : b.size ≤ sizeLine)
    (hQ : ∀ t k, Q (.bytes b t) { s with toks := k }) : wpAny (model prog w) A (call (.type "bytes") [.ref X]) Q E s := by
  refine callType_codes (Q₁ := fun obj s₁ => s₁.TypeIs obj "bytes" ∧ Q obj s₁) F.bm_called (F.bm_typeCall _) F.entry_object_init
    (ba_bytes_new hX hz fun t k => ⟨PySem.W.typeIs_bytes _ _ _, hQ t k⟩) fun obj s₁ h₁ => ?_
  exact ⟨h₁.1, F.args_object_init_2 obj _, object_init_meets F.bm_called.init.lookup F.bm_called.made (by decide) prog w A.in1 _ s₁ ⟨h₁.1, rfl, h₁.2⟩⟩
end
theorem fresh_barr : True := by
  w_top off
  k_with_none
  trivial
namespace BF
theorem owner_ba : Manifest.owners.lookup (String.ofList ['y', 'a', 'r', 'r', 'a', 'e', 't', 'y', 'b'].reverse) = some Manifest.sig_bytearray := by kernel_rfl
theorem args_init (a : Value) : argsOk "bytearray.__init__" ⟨[a], []⟩ := by
  unfold argsOk; rw [signature?_of (id := "bytearray.__init__") (n := ['_', '_', 't', 'i', 'n', 'i', '_', '_']) (o := ['y', 'a', 'r', 'r', 'a', 'e', 't', 'y', 'b']) (by kernel_rfl) owner_ba]; kernel_rfl
theorem args_iadd (a b : Value) : argsOk "bytearray.__iadd__" ⟨[a, b], []⟩ := by
  unfold argsOk; rw [signature?_of (id := "bytearray.__iadd__") (n := ['_', '_', 'd', 'd', 'a', 'i', '_', '_']) (o := ['y', 'a', 'r', 'r', 'a', 'e', 't', 'y', 'b']) (by kernel_rfl) owner_ba]; kernel_rfl
theorem slot_iadd : Slot "bytearray" (dunderI "add") "bytearray.__iadd__" :=
  .of (owner := "bytearray") (n := "__iadd__") (by rw [typeLookup_type, builtinLookup_eq_fast]; kernel_rfl) (by decide +kernel) (by decide +kernel) (by decide +kernel)
    (by first | exact .inl (by decide +kernel) | exact .inr (by decide +kernel)) (by rw [isSubtype_type]; kernel_rfl)
theorem bind0 : Builtin.Bytes.bindOptional "bytearray.__init__" "bytearray" ["source", "encoding", "errors"] [] [] = pure [none, none, none] := by kernel_rfl
end BF
section
variable {prog : Program} {w : World} {α β : Type} {M : Model} {A : Around} {s : Shared} {env : Env}
theorem isDec_of {id : String} {args : Args} (h : ((["bytearray.__contains__", "bytearray.__mod__", "bytearray.__rmod__", "_struct.pack_into.held", "bytearray.find.held"] : List String).contains id || Builtin.Bytes.decodersThatHold.contains id) = false) : isDec (.builtin id args) = false := h
theorem wpC_exported {v : Value} {Q : Bool → Shared → Prop} (h : Q false s) : wpC M A (Builtin.Bytes.exported v) Q s := fun Γ p hΓ h1 h2 => by
  have key : ∀ x : Code × Pos, isDec x.1 = false → (match x with
    | (.builtin "bytearray.__contains__" ⟨u :: _, _⟩, _) | (.builtin "bytearray.__mod__" ⟨u :: _, _⟩, _)
    | (.builtin "bytearray.__rmod__" ⟨_ :: u :: _, _⟩, _) | (.builtin "_struct.pack_into.held" ⟨u :: _, _⟩, _) => Builtin.Bytes.sameRef u v
    | (.builtin "bytearray.find.held" ⟨_ :: _ :: held, _⟩, _) => held.any (Builtin.Bytes.sameRef v)
    | (.builtin id ⟨u :: _, _⟩, _) => Builtin.Bytes.sameRef u v && Builtin.Bytes.decodersThatHold.contains id
    | _ => false) = false := by
    intro x hx
    split
    all_goals first
      | rfl
      | (exfalso; revert hx; simp [isDec]; done)
      | (simp only [isDec, Bool.or_eq_false_iff] at hx; rw [hx.2, Bool.and_false])
  show Q (((Γ.code, p) :: Γ.below).any _) s
  rw [List.any_eq_false.mpr (fun x hx => by
    rw [Bool.not_eq_true]
    refine key x ?_
    rcases List.mem_cons.mp hx with rfl | hx
    · exact h1
    · exact h2 x hx)]
  exact h
theorem wpC_if_false {c : Bool} {a b : Sem α} {Q : α → Shared → Prop} (hc : c = false) (h : wpC M A b Q s) : wpC M A (if c = true then a else b) Q s := by subst hc; exact h
theorem wpC_if_true {c : Bool} {a b : Sem α} {Q : α → Shared → Prop} (hc : c = true) (h : wpC M A a Q s) : wpC M A (if c = true then a else b) Q s := by subst hc; exact h
theorem codeC_builtin {id : String} {args : Args} {b : Builtin} {R : Result → Shared → Prop} (hb : entryFor table id = some b) (hd : isDec (.builtin id args) = false)
    (h : wpC (model prog w) (A.under (.builtin id args)) (b args)
      (fun fin s' => match fin with | .done f => R (.ok f) s' | .again c' => c'.quiet = true ∧ codeC (model prog w) A c' R s') s) :
    codeC (model prog w) A (.builtin id args) R s := by
  refine codeC_of_tree hd ?_
  show wpC _ _ (match entryFor table id with | some b => b args | none => unsupported ((withoutEnding? id "#data").getD id)) _ s
  rw [hb]; exact h
theorem codeC_call_builtin {id : String} {args : Args} {b : Builtin} {R : Result → Shared → Prop} (hq : plainId id = true) (hb : entryFor table id = some b) (hd : isDec (.builtin id args) = false)
    (h : wpAny (model prog w) A.in1 (checkBuiltinCall id args) (fun _ s₁ => wpC (model prog w) A.in1 (b args)
      (fun fin s' => match fin with | .done f => R (.ok f) s' | .again c' => c'.quiet = true ∧ codeC (model prog w) A c' R s') s₁) nev s) : codeC (model prog w) A (.call (.builtin id) args) R s := by
  refine codeC_of_tree rfl ?_
  show wpC _ A.in1 (do checkBuiltinCall id args; again (.builtin id args)) _ s
  refine wpC_bind (wpC_of (wpAny_mono h (fun _ s₁ h₁ => wpC_pure ⟨plainId_quiet hq args, codeC_builtin hb hd ?_⟩) fun _ _ x => x))
  rw [Around.under_plainId hq args]; exact h₁
theorem code_ba_new {E Q₁ : Value → Shared → Prop} (h : Q₁ (.ref s.heap.objs.size) { s with heap := s.heap.push (baObj #[]) }) :
    codeAny (model prog w) A (.call (.builtin "bytearray.__new__") ⟨[.type "bytearray"], []⟩) (wants Q₁ E) s := by
  refine codeAny_of_tree ?_
  show wpAny _ A.in1 (do checkBuiltinCall "bytearray.__new__" ⟨[.type "bytearray"], []⟩; again (.builtin "bytearray.__new__" ⟨[.type "bytearray"], []⟩)) _ _ s
  refine wpAny_bind (wpAny_of_eq BF.newCall_ba_0 (wpAny_pure ⟨plainId_quiet BF.plain_ba_new _, codeAny_builtin_stack BF.entry_ba_new rfl fun p st => ?_⟩))
  rw [Around.under_plainId BF.plain_ba_new _]
  have hsub := BF.sub_ba_self
  have hown := BF.owner_ba_new
  obtain ⟨hp, g, d, tk, os⟩ := s
  simp only [hown]
  wp_walk
  exact h
theorem ba_write {X : Addr} {b b' : Array UInt8} {f : Array UInt8 → Array UInt8} {E : Value → Shared → Prop} {Q : Unit → Shared → Prop} (hX : s.heap.get? X = some (baObj b)) (hf : f b = b') (hz : b'.size ≤ sizeLine)
    (h : ∀ h', Heap.SameBut X s.heap h' → h'.get? X = some (baObj b') → Q () { s with heap := h' }) : wpAny M A (Builtin.Bytes.write (.ref X) f) Q E s := by
  subst hf
  show wpAny _ _ (updateBytearray X f) _ _ _
  unfold updateBytearray
  refine wpAny_bind (wpAny_load hX ?_)
  show wpAny _ _ (update X (Obj.mapBytearray f) >>= fun _ => lookBehind X) _ _ _
  have h1 : (s.heap.update X (Obj.mapBytearray f)).get? X = some (baObj (f b)) := Heap.get?_update_self (Obj.mapBytearray f) hX rfl
  refine wpAny_bind (wpAny_update hX (wpAny_lookBehind h1 ?_ (h _ (Heap.SameBut.update ..) h1)))
  show (if (f b).size > sizeLine then some "bytearray:memory" else none) = none
  rw [if_neg (by omega)]
theorem ba_exports {X : Addr} {b : Array UInt8} {E : Value → Shared → Prop} {Q : Nat → Shared → Prop} (hX : s.heap.get? X = some (baObj b)) (h : Q 0 s) : wpAny M A (Builtin.Bytes.exportsOf (.ref X)) Q E s := by
  unfold Builtin.Bytes.exportsOf
  exact wpAny_bind (wpAny_load hX (wpAny_pure h))
theorem ba_orM {X : Addr} {b : Array UInt8} {Q : Bool → Shared → Prop} (hX : s.heap.get? X = some (baObj b)) (h : Q false s) : wpC M A (Builtin.Bytes.exported (.ref X) <||> (do return decide ((← Builtin.Bytes.exportsOf (.ref X)) > 0))) Q s := by
  show wpC M A (Builtin.Bytes.exported (.ref X) >>= _) Q s
  refine wpC_bind (wpC_exported ?_)
  show wpC M A (do return decide ((← Builtin.Bytes.exportsOf (.ref X)) > 0)) Q s
  exact wpC_bind (wpC_of (ba_exports hX (wpC_pure h)))
theorem ba_init {X : Addr} {Q : Shared → Prop} (hX : s.heap.get? X = some (baObj #[])) (h : ∀ h', Heap.SameBut X s.heap h' → h'.get? X = some (baObj #[]) → Q { s with heap := h' }) :
    codeC (model prog w) A (.call (.builtin "bytearray.__init__") ⟨[.ref X], []⟩) (fun r s' => match r with | .ok (.ret v) => v = .none ∧ Q s' | _ => False) s := by
  refine codeC_call_builtin BF.plain_ba_init BF.entry_ba_init (isDec_of (by decide +kernel)) (BF.slot_ba_init.check _ _ _ _ _ _ _ _ (ba_type hX) (BF.args_init _) ?_)
  unfold Builtin.«bytearray.__init__»
  refine wpC_bind (wpC_of (ba_relOwn hX ?_))
  refine wpC_if_false rfl ?_
  refine wpC_bind (wpC_of (wpAny_of_eq BF.bind0 ?_))
  refine wpC_bind (wpC_of (wpAny_of_eq (a := ()) rfl ?_))
  refine wpC_bind (wpC_of (wpAny_of_eq (a := ()) rfl ?_))
  refine wpC_bind (ba_orM hX ?_)
  refine wpC_if_false rfl ?_
  refine wpC_bind (wpC_of (ba_write (b' := #[]) hX rfl (Nat.zero_le _) fun h' h1 h2 => ?_))
  refine wpC_bind (wpC_pure ?_)
  exact wpC_pure ⟨rfl, h _ h1 h2⟩
theorem wpC_call_ba0 {Q : Value → Shared → Prop} (h : ∀ h', Heap.SameBut s.heap.objs.size (s.heap.push (baObj #[])) h' → h'.get? s.heap.objs.size = some (baObj #[]) → Q (.ref s.heap.objs.size) { s with heap := h' }) :
    wpC (model prog w) A (call (.type "bytearray") [] []) Q s := by
  obtain ⟨c, tl, hmro⟩ := BF.called_ba.mro
  have hmade := BF.called_ba.made
  have hsub := BF.called_ba.sub
  refine wpC_call (codeC_of_tree rfl ?_)
  show wpC _ _ (callAny (.type "bytearray") _) _ _
  refine wpC_pure ⟨Code.quiet_builtin _ (by decide +kernel), codeC_builtin PySem.F.entry_type_call (isDec_of (by decide +kernel)) ?_⟩
  rw [Around.under_plain (weight_type_call_type "bytearray" [] []) rfl]
  unfold Builtin.«type.__call__»
  refine wpC_if_false BF.called_ba.notType ?_
  refine wpC_if_false BF.called_ba.canCreate ?_
  refine wpC_bind (wpC_of (wpAny_of_eq BF.typeCall_ba_0 ?_))
  refine wpC_bind (wpC_of (wpAny_of_eq hmro ?_))
  refine wpC_if_false rfl ?_
  refine wpC_bind (wpC_of (wpAny_of_eq hmade ?_))
  refine wpC_bind (wpC_pure ?_)
  refine wpC_bind (wpC_holding (wpC_of (wpAny_call (codeAny_mono (code_ba_new (E := nev) (Q₁ := fun v s₁ => v = .ref s.heap.objs.size ∧ s₁ = { s with heap := s.heap.push (baObj #[]) }) ⟨rfl, rfl⟩) fun r s₁ hr => ?_))))
  cases r with
  | error e => exact hr.elim
  | ok fl =>
  cases fl with
  | ret v =>
    obtain ⟨rfl, rfl⟩ := hr
    have hX : (s.heap.push (baObj #[])).get? s.heap.objs.size = some (baObj #[]) := Heap.get?_push_size _ rfl
    have hT : Shared.TypeIs { s with heap := s.heap.push (baObj #[]) } (.ref s.heap.objs.size) "bytearray" := ⟨_, hX, rfl⟩
    refine wpC_bind (wpC_of (wpAny_isInstance hT hsub ?_))
    refine wpC_if_false rfl ?_
    refine wpC_bind (wpC_holding ?_)
    unfold callSpecial?
    refine wpC_bind (wpC_of (wpAny_specialOf hT BF.called_ba.init.lookup ?_))
    refine wpC_holding ?_
    refine wpC_bind (wpC_of (wpAny_of_eq (BF.called_ba.init.bind _) ?_))
    refine wpC_bind (wpC_call (codeC_mono (ba_init hX (Q := fun s₂ => ∃ h', Heap.SameBut s.heap.objs.size (s.heap.push (baObj #[])) h' ∧ h'.get? s.heap.objs.size = some (baObj #[]) ∧ s₂ = { s with heap := h' }) fun h' h1 h2 => ⟨h', h1, h2, rfl⟩) fun r s₂ hr => ?_))
    cases r with
    | error e => exact hr.elim
    | ok fl =>
      cases fl with
      | ret v =>
        obtain ⟨rfl, h', h1, h2, rfl⟩ := hr
        refine wpC_pure ?_
        refine wpC_if_false rfl ?_
        exact wpC_pure (h h' h1 h2)
      | _ => exact hr.elim
  | _ => exact hr.elim
end
theorem fresh_iadd : True := by
  w_top off
  k_with_none
  trivial
namespace BF
theorem add_ba : typeLookup (.type "bytearray") (dunder "add") = pure (some (.builtin "bytearray.__add__")) := by rw [typeLookup_type, builtinLookup_eq_fast]; kernel_rfl
theorem radd_ba : typeLookup (.type "bytearray") (dunderR "add") = pure none := by rw [typeLookup_type, builtinLookup_eq_fast]; kernel_rfl
theorem add_b : typeLookup (.type "bytes") (dunder "add") = pure (some (.builtin "bytes.__add__")) := by rw [typeLookup_type, builtinLookup_eq_fast]; kernel_rfl
theorem radd_b : typeLookup (.type "bytes") (dunderR "add") = pure none := by rw [typeLookup_type, builtinLookup_eq_fast]; kernel_rfl
theorem fill_ba : fillsNumberSlot (.type "bytearray") "add" = pure false := PySem.fillsNumberSlot_seq add_ba (by decide +kernel) radd_ba rfl
theorem fill_b : fillsNumberSlot (.type "bytes") "add" = pure false := PySem.fillsNumberSlot_seq add_b (by decide +kernel) radd_b rfl
end BF
section
variable {prog : Program} {w : World} {α β : Type} {M : Model} {A : Around} {E : Value → Shared → Prop} {s : Shared} {env : Env}
theorem b_bufOwn {b : Array UInt8} {t : Tok} {Q : Bool → Shared → Prop} (h : Q true s) : wpAny M A (Builtin.Bytes.slotIsOwn (.bytes b t) "__buffer__") Q E s := by
  unfold Builtin.Bytes.slotIsOwn
  refine wpAny_bind (wpAny_specialOf (T := "bytes") (PySem.W.typeIs_bytes _ _ _) BF.buf_b ?_)
  dsimp only
  rw [BF.drop3]
  refine bm_if_false (by rw [BF.ends3]; rfl) ?_
  exact wpAny_isInstance (PySem.W.typeIs_bytes _ _ _) BF.sub_b_self h
theorem b_relOwn {b : Array UInt8} {t : Tok} {Q : Bool → Shared → Prop} (h : Q false s) : wpAny M A (Builtin.Bytes.ownRelease (.bytes b t)) Q E s := by
  unfold Builtin.Bytes.ownRelease Builtin.Bytes.slotIsOwn
  refine wpAny_bind (wpAny_bind (wpAny_specialOf (T := "bytes") (PySem.W.typeIs_bytes _ _ _) BF.rel_b ?_))
  exact wpAny_pure (wpAny_pure h)
theorem b_take {id : String} {b : Array UInt8} {t : Tok} {Q : Option (Array UInt8 × Option Value) → Shared → Prop} (h : Q (some (b, none)) s) : wpAny M A (Builtin.Bytes.takeBufferQuiet? id (.bytes b t) 0) Q E s := by
  have hT : s.TypeIs (.bytes b t) "bytes" := PySem.W.typeIs_bytes _ _ _
  unfold Builtin.Bytes.takeBufferQuiet?
  refine wpAny_bind (wpAny_attempt ?_)
  unfold Builtin.Bytes.takeBuffer?
  refine wpAny_bind (wpAny_specialOf hT BF.buf_b ?_)
  dsimp only
  refine wpAny_bind (b_bufOwn ?_)
  refine bm_if_false rfl ?_
  refine wpAny_bind (wpAny_specialOf hT BF.buf_b ?_)
  refine wpAny_bind ?_
  unfold Builtin.Bytes.buffer?
  refine wpAny_bind (wpAny_specialOf hT BF.buf_b ?_)
  dsimp only
  refine wpAny_bind (b_bufOwn ?_)
  refine bm_if_false rfl ?_
  refine wpAny_bind (wpAny_specialOf hT BF.buf_b ?_)
  refine wpAny_bind (b_relOwn ?_)
  refine bm_if_false rfl ?_
  refine wpAny_bind (wpAny_of_eq (a := b) rfl ?_)
  exact wpAny_pure (wpAny_pure (wpAny_pure h))
theorem ba_checkResize {X : Addr} {b : Array UInt8} {Q : Unit → Shared → Prop} (hX : s.heap.get? X = some (baObj b)) (h : Q () s) : wpC M A (Builtin.Bytes.checkResize (.ref X)) Q s := by
  unfold Builtin.Bytes.checkResize
  refine wpC_bind (ba_orM hX ?_)
  exact wpC_if_false rfl (wpC_pure h)
theorem ba_iadd {X : Addr} {b b2 : Array UInt8} {t : Tok} {Q : Value → Shared → Prop} (hX : s.heap.get? X = some (baObj b)) (hz : b.size + b2.size ≤ sizeLine) (h : ∀ h', Heap.SameBut X s.heap h' → h'.get? X = some (baObj (b ++ b2)) → Q (.ref X) { s with heap := h' }) :
    wpC (model prog w) A (call (.builtin "bytearray.__iadd__") [.ref X, .bytes b2 t]) Q s := by
  refine wpC_call (codeC_call_builtin BF.plain_ba_iadd BF.entry_ba_iadd (isDec_of (by decide +kernel)) (BF.slot_iadd.check _ _ _ _ _ _ _ _ (ba_type hX) (BF.args_iadd _ _) ?_))
  unfold Builtin.«bytearray.__iadd__»
  refine wpC_bind (wpC_of (wpAny_of_eq (a := (.ref X, [.bytes b2 t])) rfl ?_))
  refine wpC_bind (wpC_of (b_take ?_))
  show wpC _ _ (Builtin.Bytes.thenGiveBack none _) _ _
  unfold Builtin.Bytes.thenGiveBack
  dsimp only
  have rest : wpC (model prog w) A.in1 (do
      if Builtin.Bytes.tooLong ((← Builtin.Bytes.payload (.ref X)).size + b2.size) then unsupported "bytearray.__iadd__:memory"
      Builtin.Bytes.write (.ref X) (· ++ b2)
      ret (.ref X)) (fun fin s' => match fin with
        | .done f => (match (Except.ok f : Result) with | .ok (.ret v) => Q v s' | _ => False)
        | .again c' => c'.quiet = true ∧ codeC (model prog w) A c' (fun r s' => match r with | .ok (.ret v) => Q v s' | _ => False) s') s := by
    refine wpC_bind (wpC_of (ba_payload hX ?_))
    refine wpC_if_false (by unfold Builtin.Bytes.tooLong; simp; omega) ?_
    refine wpC_bind (wpC_of (ba_write (b' := b ++ b2) hX rfl (by rw [Array.size_append]; exact hz) fun h' h1 h2 => ?_))
    exact wpC_pure (h h' h1 h2)
  cases he : b2.isEmpty with
  | true =>
    refine wpC_if_false (by simp [he]) ?_
    exact rest
  | false =>
    refine wpC_if_true (by simp [he]) ?_
    refine wpC_if_false rfl ?_
    refine wpC_bind (ba_checkResize hX ?_)
    exact rest
theorem wpC_iadd_ba {X : Addr} {b b2 : Array UInt8} {t : Tok} {Q : Value → Shared → Prop} (hX : s.heap.get? X = some (baObj b)) (hz : b.size + b2.size ≤ sizeLine) (h : ∀ h', Heap.SameBut X s.heap h' → h'.get? X = some (baObj (b ++ b2)) → Q (.ref X) { s with heap := h' }) :
    wpC (model prog w) A (inplaceOp .Add (.ref X) (.bytes b2 t)) Q s := by
  have hT : s.TypeIs (.ref X) "bytearray" := ba_type hX
  have hU : s.TypeIs (.bytes b2 t) "bytes" := PySem.W.typeIs_bytes _ _ _
  unfold inplaceOp
  refine wpC_holding ?_
  have hfi : fillsInplaceSlot (.type "bytearray") "add" (Operator.Add == .Add) = pure false := by
    unfold fillsInplaceSlot
    show (typeLookup (.type "bytearray") (dunderI "add") >>= fun fi => pure (fi.isSome && !isSeqSlot fi)) = pure false
    rw [BF.slot_iadd.lookup]; show (pure (true && !isSeqSlotId "bytearray.__iadd__") : Sem Bool) = pure false; rw [BF.seq_ba]; rfl
  have hsi : seqSlot? (.type "bytearray") (dunderI "add") = pure (some (.builtin "bytearray.__iadd__")) := PySem.seqSlot_of BF.slot_iadd.lookup BF.seq_ba
  refine wpC_bind (wpC_of (wpAny_typeOf hT (wpC_bind (wpC_of (wpAny_of_eq hfi ?_)))))
  show wpC _ A (if false = true then _ else _) Q s
  rw [if_neg Bool.false_ne_true]
  refine wpC_bind (wpC_of ?_)
  show wpAny _ _ (binaryOp1 "add" _ _) _ _ _
  simp only [binaryOp1]
  refine wpAny_bind (wpAny_typeOf hT (wpAny_bind (wpAny_typeOf hU (wpAny_bind (wpAny_of_eq BF.fill_ba ?_)))))
  refine bm_if_false (by decide +kernel) ?_
  refine wpAny_bind (wpAny_of_eq BF.fill_b ?_)
  simp only [Bool.false_and, Bool.and_false, Bool.false_eq_true, if_false, pure_bind]
  refine wpAny_pure ?_
  refine wpC_bind (wpC_of (wpAny_of_eq hsi ?_))
  refine wpC_bind (wpC_of (wpAny_rule ?_))
  first
    | exact ba_iadd hX hz h
    | exact wpC_bind (wpC_mono (ba_iadd hX hz h) fun v s' hv => wpC_pure hv)
/-! with the frame and the ledger -/
theorem fr_upd {h₀ h h' : Heap} {L X : Addr} {m : Str → Option Value} {o o' : Obj} {rest : List (Addr × Obj)} (F : Fr h₀ L h m) (N : News h₀ L h ((X, o) :: rest)) (hne : ∀ p ∈ rest, p.1 ≠ X) (hs : Heap.SameBut X h h') (ho : h'.get? X = some o') :
    Fr h₀ L h' m ∧ News h₀ L h' ((X, o') :: rest) := by
  have hmem := N (X, o) (.head _)
  refine ⟨⟨F.ns.sameBut hs (Ne.symm hmem.2.1), fun b ob e => (hs.2 b (fun q => ?_)).trans (F.keep b ob e), F.above⟩, News.setAt (own := []) N (fun p hp => (nomatch hp)) hne hs ho⟩
  rw [q, hmem.2.2] at e; cases e
theorem call_ba {h₀ : Heap} {L : Addr} {m : Str → Option Value} {news : List (Addr × Obj)} {Q : Value → Shared → Prop} (F : Fr h₀ L s.heap m) (N : News h₀ L s.heap news)
    (h : ∀ X h', Fr h₀ L h' m → News h₀ L h' ((X, baObj #[]) :: news) → (∀ p ∈ news, p.1 < X) → Q (.ref X) { s with heap := h' }) : wpC (model prog w) A (call (.type "bytearray") [] []) Q s := by
  refine wpC_call_ba0 fun h' h1 h2 => ?_
  have hlt : ∀ p ∈ news, p.1 < s.heap.objs.size := fun p hp => Heap.lt_size (N p hp).1
  obtain ⟨F', N'⟩ := fr_upd (F.push (baObj #[])) (N.push F (baObj #[])) (fun p hp => Nat.ne_of_lt (hlt p hp)) h1 h2
  exact h _ _ F' N' hlt
theorem iadd_ba {h₀ : Heap} {L X : Addr} {m : Str → Option Value} {b b2 : Array UInt8} {t : Tok} {news : List (Addr × Obj)} {Q : Value → Shared → Prop} (F : Fr h₀ L s.heap m) (N : News h₀ L s.heap ((X, baObj b) :: news)) (hne : ∀ p ∈ news, p.1 ≠ X) (hz : b.size + b2.size ≤ sizeLine)
    (h : ∀ h', Fr h₀ L h' m → News h₀ L h' ((X, baObj (b ++ b2)) :: news) → Q (.ref X) { s with heap := h' }) : wpC (model prog w) A (inplaceOp .Add (.ref X) (.bytes b2 t)) Q s := by
  refine wpC_iadd_ba (N _ (.head _)).1 hz fun h' h1 h2 => ?_
  obtain ⟨F', N'⟩ := fr_upd F N hne h1 h2
  exact h _ F' N'
end
theorem fresh_telc : True := by
  w_top off
  k_with_none
  trivial
section
variable {prog : Program} {w : World} {A : Around} {s : Shared} {env : Env} {h₀ : Heap}
theorem wpC_For {target : Expr} {iter : Expr} {body : List Stmt} {pos : Pos} {Q : Flow → Shared → Prop} {M : Model}
    (h : wpAny M A (eval iter env) (fun x s₁ => wpAny M A (pyIter x) (fun it s₂ =>
      codeC M (A.mark none) (.forLoop target it body [] env) (fun r s' => match r with | .ok f => Q f s' | .error _ => False) s₂) nev s₁) nev s)
    (hs : ∀ x, foldedSetIterable iter env x = pure x := by intro _; rfl) :
    wpC M A (exec (.For target iter body [] pos) env) Q s := by
  rw [exec_For]
  exact wpC_bind (wpC_standAt (wpC_bind (wpC_of (wpAny_mono h (fun x s₁ h₁ => wpC_bind (wpC_of (wpAny_of_eq (hs x) (wpC_bind (wpC_standAt (wpC_bind (wpC_holding
    (wpC_of (wpAny_mono h₁ (fun it s₂ h₂ => wpC_runOwn h₂) fun _ _ h' => h'))))))))) fun _ _ h' => h'))))
theorem codeC_forLoop {R : Result → Shared → Prop} {target it body} (I : Nat → Shared → Prop)
    (turn : ∀ n s, I n s → wpAny (model prog w) A (pyNext it) (fun r s₁ => match r with
      | none => R (.ok .next) s₁
      | some v => wpAny (model prog w) A (assign target env v) (fun _ s₂ => wpC (model prog w) A (execs body env) (fun f s₃ => match f with
          | .next | .cont => ∃ m, m < n ∧ I m s₃
          | .brk => R (.ok .next) s₃
          | .ret v => R (.ok (.ret v)) s₃) s₂) nev s₁) nev s)
    (n : Nat) (h : I n s) (ht : ∀ v, letOwnedTupleGo target it v = pure () := by intro _; rfl) : codeC (model prog w) A (.forLoop target it body [] env) R s := by
  refine codeC_loop rfl rfl I (fun n s hI => ?_) n h
  show wpC _ _ ((forTurn target it body [] env).onRaise (fun x => do noteFrame x env; theTreesLotGoes x)) _ s
  refine wpC_onRaise ?_
  simp only [forTurn]
  refine wpC_bind (wpC_standAt (wpC_bind (wpC_onRaise (wpC_of (wpAny_mono (turn n s hI) (fun r s₁ h₁ => ?_) fun _ _ x => x)))))
  cases r with
  | none => exact wpC_pure (.inr ⟨rfl, codeC_of (codeAny_block (wpAny_execs_nil h₁))⟩)
  | some v =>
    refine wpC_bind (wpC_of (wpAny_of_eq (ht v) ?_))
    refine wpC_bind (wpC_of (wpAny_mono h₁ (fun _ s₂ h₂ => wpC_bind (wpC_mono h₂ (fun f s₃ h₃ => ?_))) fun _ _ h' => h'))
    cases f with
    | next => exact wpC_pure (.inl ⟨rfl, h₃⟩)
    | cont => exact wpC_pure (.inl ⟨rfl, h₃⟩)
    | brk => exact wpC_pure h₃
    | ret v => exact wpC_pure h₃
def RgEnd (h₀ : Heap) (L : Addr) (s : Shared) (I : Addr) (o : Obj) (J : (Str → Option Value) → List (Addr × Obj) → Prop) (s₂ : Shared) : Prop :=
  ∃ h' tk m' nx, s₂ = { s with heap := h', toks := tk } ∧ Fr h₀ L h' m' ∧ News h₀ L h' ((I, o) :: nx) ∧ (∀ p ∈ nx, p.1 ≠ I) ∧ J m' nx
def RgPost (h₀ : Heap) (L : Addr) (s : Shared) (I : Addr) (o : Obj) (J : (Str → Option Value) → List (Addr × Obj) → Prop) (Q : Flow → Shared → Prop) (f : Flow) (s₂ : Shared) : Prop :=
  match f with
  | .ret v => Q (.ret v) s₂
  | .brk => Q .next s₂
  | _ => RgEnd h₀ L s I o J s₂
theorem rg_end {L : Addr} {I : Addr} {o : Obj} {J : (Str → Option Value) → List (Addr × Obj) → Prop} {h' : Heap} {tk : Nat} {m' : Str → Option Value} {nx : List (Addr × Obj)} (F : Fr h₀ L h' m') (N : News h₀ L h' ((I, o) :: nx)) (hn : ∀ p ∈ nx, p.1 ≠ I) (hj : J m' nx) :
    RgEnd h₀ L s I o J { s with heap := h', toks := tk } := ⟨h', tk, m', nx, rfl, F, N, hn, hj⟩
def RgStart (h₀ : Heap) (L : Addr) (s : Shared) (a₀ b₀ : Int) (J : (Str → Option Value) → List (Addr × Obj) → Prop) (v : Value) (s₁ : Shared) : Prop :=
  ∃ r t₀ u₀ v₀ h₁ tk₁ m news, v = .ref r ∧ s₁ = { s with heap := h₁, toks := tk₁ } ∧ IsRange h₁ r a₀ b₀ 1 t₀ u₀ v₀ ∧ Fr h₀ L h₁ m ∧ News h₀ L h₁ news ∧ J m news
theorem wpC_ForRange {x : Str} {px pos : Pos} {iter : Expr} {body : List Stmt} {Q : Flow → Shared → Prop} {n : Nat} {a₀ b₀ : Int} (J : Nat → (Str → Option Value) → List (Addr × Obj) → Prop)
    (hh : A.handled = none) (hx : env.kindOf x = some .local) (hp : (env.scope.kind == .class || (env.scope.kind == .module && env.locals != env.globals)) = false)
    (hn : Builtin.Range.rangeSize a₀ b₀ 1 = (n : Int)) (hsmall : Builtin.Range.small a₀ b₀ 1 = true)
    (ht : wpAny (model prog w) A (eval iter env) (RgStart h₀ env.locals s a₀ b₀ (J 0)) nev s)
    (turn : ∀ I i (m₁ : Str → Option Value) nx h tk t, i < n → J i m₁ nx → (∀ p ∈ nx, p.1 ≠ I) → Fr h₀ env.locals h (fun y => if y = x then some (.int (a₀ + (i : Int)) t) else m₁ y) → News h₀ env.locals h ((I, krsIt (a₀ + ((i + 1 : Nat) : Int)) ((n : Int) - ((i + 1 : Nat) : Int)) 1) :: nx) →
      wpC (model prog w) A (execs body env) (RgPost h₀ env.locals s I (krsIt (a₀ + ((i + 1 : Nat) : Int)) ((n : Int) - ((i + 1 : Nat) : Int)) 1) (J (i + 1)) Q) { s with heap := h, toks := tk })
    (done : ∀ m₁ nx h tk, J n m₁ nx → Fr h₀ env.locals h m₁ → News h₀ env.locals h nx → Q .next { s with heap := h, toks := tk })
    (hs : ∀ x, foldedSetIterable iter env x = pure x := by intro _; rfl) :
    wpC (model prog w) A (exec (.For (.Name x px) iter body [] pos) env) Q s := by
  refine wpC_For (wpAny_mono ht (fun v s₁ hv => ?_) fun _ _ x => x) hs
  obtain ⟨r, t₀, u₀, v₀, h₁, tk₁, m, news, rfl, rfl, hr, F, N, hj⟩ := hv
  refine wpAny_pyIter_range hr hsmall ?_
  have hA : (A.mark none).handled = none := by first | exact hh | rfl
  have hlt : ∀ p ∈ news, p.1 < h₁.objs.size := fun p hp => Heap.lt_size (N p hp).1
  refine codeC_forLoop (fun k s' => ∃ i h' tk m' nx, s' = { s with heap := h', toks := tk } ∧ i ≤ n ∧ k = n - i ∧ Fr h₀ env.locals h' m' ∧ News h₀ env.locals h' ((h₁.objs.size, krsIt (a₀ + (i : Int)) ((n : Int) - (i : Int)) 1) :: nx) ∧ (∀ p ∈ nx, p.1 ≠ h₁.objs.size) ∧ J i m' nx) ?_ n
    ⟨0, _, _, m, news, rfl, Nat.zero_le _, rfl, F.push _, by
      have := N.push F (krsIt a₀ (n : Int) 1)
      rw [hn]
      simpa [krsIt] using this, fun p hp => Nat.ne_of_lt (hlt p hp), hj⟩
  rintro k s' ⟨i, h', tk, m', nx, rfl, hi, rfl, F', N', hne, hJ⟩
  have hit : IsRangeIter h' h₁.objs.size (a₀ + (i : Int)) ((n : Int) - (i : Int)) 1 := (N' _ (.head _)).1
  by_cases hlt' : i < n
  · refine wpAny_pyNext_range_item hit (by omega) fun h2 hit2 hs2 => ?_
    have e1 : a₀ + (i : Int) + 1 = a₀ + ((i + 1 : Nat) : Int) := by push_cast; omega
    have e2 : (n : Int) - (i : Int) - 1 = (n : Int) - ((i + 1 : Nat) : Int) := by push_cast; omega
    rw [e1, e2] at hit2
    obtain ⟨F2, N2⟩ := fr_upd F' N' hne hs2 hit2
    refine wpAny_assign_Name (wpAny_storeName_local hx F2.ns (fun h3 hn3 hs3 => ?_) hp)
    have F3 := F2.set hn3 hs3
    have N3 := N2.set hs3
    refine wpC_mono (turn _ i m' nx h3 _ _ hlt' hJ hne F3 N3) fun f s₃ h₃ => ?_
    have fin : RgEnd h₀ env.locals s h₁.objs.size (krsIt (a₀ + ((i + 1 : Nat) : Int)) ((n : Int) - ((i + 1 : Nat) : Int)) 1) (J (i + 1)) s₃ → ∃ m, m < n - i ∧ ∃ i h' tk m' nx, s₃ = { s with heap := h', toks := tk } ∧ i ≤ n ∧ m = n - i ∧ Fr h₀ env.locals h' m' ∧ News h₀ env.locals h' ((h₁.objs.size, krsIt (a₀ + (i : Int)) ((n : Int) - (i : Int)) 1) :: nx) ∧ (∀ p ∈ nx, p.1 ≠ h₁.objs.size) ∧ J i m' nx := by
      rintro ⟨h', tk, m', nx, rfl, F', N', hn', hJ'⟩
      exact ⟨n - (i + 1), by omega, i + 1, h', tk, m', nx, rfl, hlt', rfl, F', N', hn', hJ'⟩
    cases f with
    | ret v => exact h₃
    | brk => exact h₃
    | next => exact fin h₃
    | cont => exact fin h₃
  · have hin : i = n := by omega
    subst hin
    refine wpAny_pyNext_range_end hA hit (by omega) fun h2 he => ?_
    have hL : env.locals ≠ h₁.objs.size := fun e => (N' _ (.head _)).2.1 e.symm
    have old : ∀ b o, h₀.get? b = some o → b ≠ h₁.objs.size := fun b o e q => by
      have := (N' _ (.head _)).2.2
      rw [q] at e; rw [e] at this; cases this
    exact done m' nx h2 _ hJ ⟨F'.ns.at' fun o e => he _ o hL e, fun b o e => he b o (old b o e) (F'.keep b o e), F'.above⟩ fun p hp => ⟨he _ _ (hne p hp) (N' p (.tail _ hp)).1, (N' p (.tail _ hp)).2⟩
end
def TelC (prog : Program) (w : World) (f : Addr) (sz : Nat) (news : List (Addr × Obj)) (vs : List Value) (Post : Value → List (Addr × Obj) → Prop) : Prop :=
  ∀ (p : Program) (loose : List Str) (mean : ExcName → Option Value) (mg mb : Str → Option Value)
    (dp un : Nat) (gd : Option (List Code)) (cn : Str) (cs : Scope) (a : Addr) (ccd : Value) (cl : List (Str × Addr)) (outer : List Env) (A₀ : Around) (base h₀ : Heap) (L : Addr) (m : Str → Option Value) (s : Shared) (Q : Value → Shared → Prop),
    Below A₀ base outer h₀ → Fr h₀ L s.heap m → (K9 w.params).In h₀ → News h₀ L s.heap news → Top p loose mean mg mb h₀ → cs.kind = .function → dp + sz < recursionLimit → un + 8 * sz < cLine →
    (∀ r news' h' tk', Fr h₀ L h' m → News h₀ L h' news' → Post r news' → Q r { s with heap := h', toks := tk' }) →
    wpC (model prog w) (ktrTop dp un gd cn cs L a ccd cl outer) (call (.ref f) vs) Q s
theorem Tel.toC {prog : Program} {w : World} {f : Addr} {sz : Nat} {news : List (Addr × Obj)} {vs : List Value} {Post : Value → List (Addr × Obj) → Prop} (C : Tel prog w f sz news vs Post) : TelC prog w f sz news vs Post := by
  intro p loose mean mg mb dp un gd cn cs a ccd cl outer A₀ base h₀ L m s Q B F X N T hk hdp hun ret
  exact wpC_of (C.use B F X N T hk hdp hun ret)
theorem TelC.mono {prog : Program} {w : World} {f : Addr} {sz sz' : Nat} {news : List (Addr × Obj)} {vs : List Value} {Post Post' : Value → List (Addr × Obj) → Prop} (C : TelC prog w f sz news vs Post) (hs : sz ≤ sz') (h : ∀ r nw, Post r nw → Post' r nw) : TelC prog w f sz' news vs Post' := by
  intro p loose mean mg mb dp un gd cn cs a ccd cl outer A₀ base h₀ L m s Q B F X N T hk hdp hun ret
  refine C p loose mean mg mb dp un gd cn cs a ccd cl outer A₀ base h₀ L m s Q B F X N T hk ?_ ?_ fun r n h' t a b c => ret r n h' t a b (h r n c)
  · exact Nat.lt_of_le_of_lt (Nat.add_le_add_left hs _) hdp
  · exact Nat.lt_of_le_of_lt (Nat.add_le_add_left (Nat.mul_le_mul_left 8 hs) _) hun
theorem wpC_callWith_type0 {M : Model} {A : Around} {s : Shared} {pos : Pos} {T : String} {Q : Value → Shared → Prop} (h : wpC M A (call (.type T) [] []) Q s) : wpC M A (callWith pos (.type T) [] [] []) Q s :=
  wpC_callWith (P := fun _ => True) rfl (fun h _ => ⟨.machine, .inr (.inl rfl), .now⟩) (evalArgs_nil3 ⟨trivial, h⟩)
theorem toksC {M : Model} {A : Around} {X : Type} {t : Sem X} {Q : X → Shared → Prop} {hp : Heap} {gs : Array GenState} {dr : Drawn} {tk : Nat} {o : OsState} (h : ∀ tk, wpC M A t Q { heap := hp, gens := gs, drawn := dr, toks := tk, os := o }) : wpC M A t Q { heap := hp, gens := gs, drawn := dr, toks := tk, os := o } := h tk
theorem wpC_Tuple1 {M : Model} {A : Around} {s : Shared} {env : Env} {e : Expr} {rest : List Expr} {k : Nat} {pos : Pos} {Q : Value → Shared → Prop}
    (h : wpC M A (eval e env) (fun v s₁ => wpAny M A (spliced (backTo pos (starEach rest env))) (fun vs s₂ => wpAny M A (newTuple (v :: vs)) Q nev s₂) nev s₁) s)
    (he : starEach (e :: rest) env = (false, eval e env) :: starEach rest env := by rfl) : wpC M A (eval (.Tuple (e :: rest) k pos) env) Q s := by
  show wpC M A (do standAt pos; newTuple (← spliced (backTo pos (starEach (e :: rest) env)))) Q s
  rw [he]
  refine wpC_bind (wpC_standAt (wpC_bind ?_))
  show wpC M A (spliced ((false, eval e env) :: backTo pos (starEach rest env))) _ s
  rw [spliced]
  refine wpC_bind (wpC_mono h (fun v s₁ h₁ => ?_))
  simp only [Bool.false_eq_true, if_false]
  exact wpC_bind (wpC_pure (wpC_bind (wpC_holding (wpC_of (wpAny_mono h₁ (fun vs s₂ h₂ => wpC_pure (wpC_of h₂)) fun _ _ x => x)))))
section
variable {prog : Program} {w : World} {f : Addr} {sz : Nat} {news : List (Addr × Obj)} {vs : List Value} {Post : Value → List (Addr × Obj) → Prop}
  {p : Program} {loose : List Str} {mean : ExcName → Option Value} {mg mb : Str → Option Value}
  {dp un : Nat} {gd : Option (List Code)} {cn : Str} {cs : Scope} {a : Addr} {ccd : Value} {cl : List (Str × Addr)} {outer : List Env} {A₀ : Around} {base h₀ : Heap} {L : Addr} {m : Str → Option Value} {s : Shared} {Q : Value → Shared → Prop}
theorem TelC.use (C : TelC prog w f sz news vs Post) (B : Below A₀ base outer h₀) (F : Fr h₀ L s.heap m) (X : (K9 w.params).In h₀) (N : News h₀ L s.heap news) (T : Top p loose mean mg mb h₀) (hk : cs.kind = .function)
    (hdp : dp + sz < recursionLimit) (hun : un + 8 * sz < cLine)
    (ret : ∀ r news' h' tk', Fr h₀ L h' m → News h₀ L h' news' → Post r news' → Q r { s with heap := h', toks := tk' }) :
    wpC (model prog w) (ktrTop dp un gd cn cs L a ccd cl outer) (call (.ref f) vs) Q s :=
  C _ _ _ _ _ _ _ _ _ _ _ _ _ _ _ _ _ _ _ _ _ B F X N T hk hdp hun ret
end
local macro_rules | `(tactic| walk_at "my enterK") => `(tactic| (refine' codeC_def ?k1 ?k2 ?k3 ?k4 ?k5 ?kA ?kF ?kK ?k6 ?k7 ?k8 ?k9 ?kB ?_ ?c2 ?c3 ?c4 ?c5; (case kA => exact rfl); (case kF => exact rfl); (case kK => first | exact rfl | assumption); (case k1 => k_asm); (case k2 => k_asm); (case k3 => k_asm); (case k4 => k_asm); (case k5 => k_asm); (case k6 => k_is); (case k7 => k_is); (case k8 => ktr_room); (case k9 => exact BindsTo.of_eq rfl); (case c5 => decide); (case kB => exact locs rfl); (case c2 => exact rfl); (case c3 => exact rfl); (case c4 => exact rfl); k_whole))
local macro_rules | `(tactic| walk_at "RgPost") => `(tactic| (dsimp only [RgPost]))
local macro_rules | `(tactic| ktn_call 2 $c) => `(tactic| (k_dflt (refine' TelC.use $c ?k1 ?k2 ?k3 ?k4 ?k5 ?k6 ?k7 ?k8 ?_); (case k1 => k_asm); (case k2 => k_asm); (case k3 => k_asm); (case k4 => k_asm); (case k5 => k_asm); (case k6 => first | exact rfl | assumption); (case k7 => ktr_room); (case k8 => ktr_units)))
theorem fresh_raw : True := by
  w_top off
  k_with_none
  trivial
theorem nw_swap {h₀ h : Heap} {L : Addr} {p q : Addr × Obj} {r : List (Addr × Obj)} (N : News h₀ L h (p :: q :: r)) : News h₀ L h (q :: p :: r) := by
  intro x hx
  refine N x ?_
  rcases List.mem_cons.mp hx with h | hx
  · exact List.mem_cons.mpr (.inr (List.mem_cons.mpr (.inl h)))
  · rcases List.mem_cons.mp hx with h | hx
    · exact List.mem_cons.mpr (.inl h)
    · exact List.mem_cons.mpr (.inr (List.mem_cons.mpr (.inr hx)))
theorem nw_d3 {h₀ h : Heap} {L : Addr} {p q x : Addr × Obj} {r : List (Addr × Obj)} (N : News h₀ L h (p :: q :: x :: r)) : News h₀ L h (p :: q :: r) := by
  intro y hy
  refine N y ?_
  rcases List.mem_cons.mp hy with h | hy
  · exact List.mem_cons.mpr (.inl h)
  · rcases List.mem_cons.mp hy with h | hy
    · exact List.mem_cons.mpr (.inr (List.mem_cons.mpr (.inl h)))
    · exact List.mem_cons.mpr (.inr (List.mem_cons.mpr (.inr (List.mem_cons.mpr (.inr hy)))))
theorem cr_cps : (Str.ofString "\x0d").cps = #[13] := by decide +kernel
set_option maxHeartbeats 8000000 in
theorem raw_tel (prog : Program) (w : World) (news : List (Addr × Obj)) (text : Str) (k : Int) (t1 t2 : Tok) (h0 : 0 ≤ k) (h1 : k + 5 ≤ text.length) (h2 : text.length < 100000)
  (hf : Txt.find3 text (Str.ofString "`") (k + 1) = k + 4) (hi : ∀ i : Nat, i < 3 → ∃ d : Nat, d < 128 ∧ d ≠ 13 ∧ Txt.item text (k + 1 + (i : Int)) = ⟨#[d]⟩) (hs : Txt.slice text (some k) (some (k + 4 + 1)) = Str.ofString "`;\n+`") :
  TelC prog w 146 3 news [.str text t1, .int k t2] (fun r nw => ∃ a1 a2 u1 u2 u3 u4 v, (∀ q ∈ news, q.1 < a1) ∧ a1 < a2 ∧ nw = (a2, tupO [.ref a1, .int (k + 4 + 1) u1]) :: (a1, tupO [.str (Str.ofString "text") u2, .str (Str.ofString "`;\n+`") u3, .int k u4, v]) :: news ∧ r = .ref a2) := by
  unfold TelC
  intro p loose mean mg mb dp un gd cn cs a ccd cl outer A₀ base h₀ L m s Q B F X N T hk hdp hun hret
  refine wpC_call ?_
  k_dflt (walk_at "my enterK")
  intro g1 L1 h3 FG F1 N1 B1 X1 T1 l1
  try dsimp only
  obtain ⟨u, FX2⟩ := kst_ex [(Str.ofString "text", .str text t1), (Str.ofString "begin", .int k t2)] F1 (by kst_all)
  clear F1
  dsimp only [kstB] at FX2
  k_with_none
  refine wpC_leaf ?_
  walk_at "my steps"
  rename Fr _ _ _ (fun y => _) => FX3
  rw [hf] at FX3
  obtain ⟨te, u2, FX4⟩ : ∃ te u2, Fr g1 L1 _ (kstB u2 [(Str.ofString "text", .str text t1), (Str.ofString "begin", .int k t2), (Str.ofString "end", .int (k + 4) te)]) := ⟨_, kst_ex _ FX3 (by kst_all)⟩
  clear FX3
  dsimp only [kstB] at FX4
  refine toksC ?_
  intro tk2
  refine wpC_leaf ?_
  walk_at "my steps"
  refine wpC_execs_cons (wpC_Assign_Name (wpC_Call_Name ?_))
  walk_at "my steps"
  refine wpC_callWith_type0 (call_ba (by assumption) (by assumption) fun X h3 F3 N3 l3 => ?_)
  walk_at "my steps"
  try dsimp only
  rename Fr _ _ _ (fun y => _) => FX3
  have hsz : Builtin.Range.rangeSize (k + 1) (k + 4) 1 = 3 := by
    unfold Builtin.Range.rangeSize
    rw [if_pos (by omega), if_pos (by omega)]
    omega
  refine wpC_execs_cons (wpC_ForRange (h₀ := g1) (n := 3) (a₀ := k + 1) (b₀ := k + 4) (fun i m nx => ∃ b : Array UInt8, b.size = i ∧ nx = (X, baObj b) :: news ∧ (∀ p ∈ [(Str.ofString "text", Value.str text t1), (Str.ofString "begin", .int k t2), (Str.ofString "end", .int (k + 4) te), (Str.ofString "found", .ref X)], m p.1 = some p.2)) rfl rfl rfl ?_ ?_ ?_ ?_ ?_)
  · exact hsz
  · simp only [Builtin.Range.small, Builtin.Range.rangeFitsLong, hsz]
    simp only [Bool.and_eq_true, Bool.or_eq_true, decide_eq_true_eq]
    refine ⟨⟨⟨⟨by omega, by omega⟩, by decide⟩, by decide⟩, .inr ?_⟩
    rw [if_pos (by decide)]
    simp only [Bool.and_eq_true, decide_eq_true_eq]
    omega
  · walk_at "my steps"
    exact ⟨_, _, _, _, _, _, _, _, rfl, rfl, by assumption, by assumption, by assumption, _, rfl, rfl, by kst_all⟩
  · intro I i m₁ nx h4 tk4 t4 hi4 hJ hnx F4 N4
    obtain ⟨b, hb, rfl, hm⟩ := hJ
    obtain ⟨u', e'⟩ : ∃ u', m₁ = kstB u' [(Str.ofString "text", Value.str text t1), (Str.ofString "begin", .int k t2), (Str.ofString "end", .int (k + 4) te), (Str.ofString "found", .ref X)] := ⟨_, kst_self hm⟩
    subst e'
    dsimp only [kstB] at F4
    obtain ⟨d, hd1, hd2, hd3⟩ := hi i hi4
    refine wpC_execs_cons (wpC_IfL ?_)
    walk_at "my steps"
    · have hd4 : d < 55296 := by omega
      refine wpC_execs_cons (wpC_AugAssign_Name ?_)
      walk_at "my steps"
      refine wpC_of ?_
      walk_at "my steps"
      rename Fr g1 _ _ (fun y => _) => F6
      rename News g1 _ _ _ => N6
      refine iadd_ba F6 (nw_swap N6) (fun p hp => ?_) ?_ fun h7 F7 N7 => ?_
      · rcases List.mem_cons.mp hp with rfl | hp
        · exact Ne.symm (hnx _ (.head _))
        · exact Nat.ne_of_lt (l3 p hp)
      · unfold sizeLine; omega
      · walk_at "my steps"
        refine wpC_execs_nil (wpC_execs_nil (rg_end (by assumption) (nw_swap (by assumption)) ?_ ⟨_, ?_, rfl, by kst_all⟩))
        · intro p hp
          rcases List.mem_cons.mp hp with rfl | hp
          · exact hnx (X, baObj b) (.head _)
          · exact hnx p (.tail _ hp)
        · rw [Array.size_append]; omega
    · rename (Txt.item text (k + 1 + (i : Int)) != _) = false => e9
      rw [hd3] at e9
      have e8 : (⟨#[d]⟩ : Str) = Str.ofString "\x0d" := by simpa [bne] using e9
      have e7 := congrArg Str.cps e8
      rw [cr_cps] at e7
      exact absurd (by simpa using e7) hd2
  · intro m₁ nx h4 tk4 hJ F4 N4
    obtain ⟨b, hb, rfl, hm⟩ := hJ
    obtain ⟨u', e'⟩ : ∃ u', m₁ = kstB u' [(Str.ofString "text", Value.str text t1), (Str.ofString "begin", .int k t2), (Str.ofString "end", .int (k + 4) te), (Str.ofString "found", .ref X)] := ⟨_, kst_self hm⟩
    subst e'
    dsimp only [kstB] at F4
    refine wpC_leaf ?_
    walk_at "my steps"
    rename News g1 _ _ ((X, baObj b) :: news) => N8
    refine call_bytes_ba (N8 _ (.head _)).1 (by unfold sizeLine; omega) fun t9 k9 => ?_
    walk_at "my steps"
    rename News h₀ L _ _ => kN
    rw [hs] at kN
    rename (X < _ ∧ AllLt _ news) => z7
    rename (_ ∧ X < _ ∧ AllLt _ news) => z8
    exact hret _ _ _ _ (by k_asm) (nw_d3 kN) ⟨_, _, _, _, _, _, _, ktn_ltOf z7.2, z8.1, rfl, rfl⟩
theorem fresh_quoted : True := by
  w_top off
  k_with_none
  trivial
def qAt (k : Int) : Bool → Int
  | false => k + 1
  | true => k + 1 + 1
theorem bs_cps : (Str.ofString "\\").cps = #[92] := by decide +kernel
set_option maxHeartbeats 8000000 in
theorem quoted_tel (prog : Program) (w : World) (news : List (Addr × Obj)) (text : Str) (k : Int) (t1 t2 : Tok) (h0 : 0 ≤ k) (h1 : k + 3 ≤ text.length) (h2 : text.length < 100000)
  (hs1 : Txt.slice text (some (k + 1)) (some (k + 1 + 1)) = Str.ofString "+") (hi1 : Txt.item text (k + 1) = ⟨#[43]⟩) (hs2 : Txt.slice text (some (k + 1 + 1)) (some (k + 1 + 1 + 1)) = Str.ofString "\"") (hs3 : Txt.slice text (some k) (some (k + 1 + 1 + 1)) = Str.ofString "\"+\"") :
  TelC prog w 139 3 news [.str text t1, .int k t2] (fun r nw => ∃ a1 a2 u1 u2 u3 u4 v, (∀ q ∈ news, q.1 < a1) ∧ a1 < a2 ∧ nw = (a2, tupO [.ref a1, .int (k + 1 + 1 + 1) u1]) :: (a1, tupO [.str (Str.ofString "text") u2, .str (Str.ofString "\"+\"") u3, .int k u4, v]) :: news ∧ r = .ref a2) := by
  unfold TelC
  intro p loose mean mg mb dp un gd cn cs a ccd cl outer A₀ base h₀ L m s Q B F X N T hk hdp hun hret
  refine wpC_call ?_
  k_dflt (walk_at "my enterK")
  intro g1 L1 h3 FG F1 N1 B1 X1 T1 l1
  try dsimp only
  obtain ⟨u, FX2⟩ := kst_ex [(Str.ofString "text", .str text t1), (Str.ofString "begin", .int k t2)] F1 (by kst_all)
  clear F1
  dsimp only [kstB] at FX2
  k_with_none
  refine wpC_execs_cons (wpC_Assign_Tuple_swapped (names := [Str.ofString "found", Str.ofString "at"]) (wpC_Tuple1 (wpC_Call_Name ?_)))
  walk_at "my steps"
  refine wpC_callWith_type0 (call_ba (by assumption) (by assumption) fun X h3 F3 N3 l3 => ?_)
  walk_at "my steps"
  rename Fr g1 _ _ (fun y => _) => FX3
  rename News g1 _ _ (_ :: (X, _) :: news) => N4
  obtain ⟨ta, u2, FX4⟩ : ∃ ta u2, Fr g1 L1 _ (kstB u2 [(Str.ofString "found", .ref X), (Str.ofString "at", .int (k + 1) ta), (Str.ofString "text", .str text t1), (Str.ofString "begin", .int k t2)]) := ⟨_, kst_ex _ FX3 (by kst_all)⟩
  clear FX3
  refine toksC ?_
  intro tk2
  refine wpC_execs_cons (wpC_While (h₀ := g1) (L := L1) (σ := Bool × Tok × Array UInt8) (fun c => (X, baObj c.2.2) :: news) (fun c => [(Str.ofString "found", Value.ref X), (Str.ofString "at", .int (qAt k c.1) c.2.1), (Str.ofString "text", .str text t1), (Str.ofString "begin", .int k t2)])
    (fun c => c.2.2.size = if c.1 then 1 else 0) (fun c => if c.1 then 0 else 1) (false, ta, #[]) FX4 N4 (fun p hp => .tail _ hp) (by kst_all) rfl ?_)
  rintro ⟨c, tc, bb⟩ u5 h5 tk5 hc F5 N5
  dsimp only [kstB] at F5 N5 hc
  clear FX4 N4
  cases c with
  | false =>
    dsimp only [qAt] at F5
    refine wpC_of ?_
    k_with "my cmp" => rw [hs1]
    walk_at "my steps"
    refine wpC_execs_cons (wpC_IfL ?_)
    k_with "my cmp" => rw [hi1]
    walk_at "my steps"
    have hd3 : Txt.item text (k + 1) = ⟨#[43]⟩ := hi1
    have hd4 : 43 < 55296 := by decide
    refine wpC_execs_cons (wpC_AugAssign_Name ?_)
    walk_at "my steps"
    refine wpC_of ?_
    walk_at "my steps"
    rename Fr g1 _ _ (fun y => _) => F6
    rename News g1 _ _ _ => N6
    have hc0 : bb.size = 0 := hc
    refine iadd_ba F6 (fun p hp => N6 p (.tail _ hp)) (fun p hp => ?_) ?_ fun h7 F7 N7 => ?_
    · exact Nat.ne_of_lt (l3 p hp)
    · unfold sizeLine; omega
    · walk_at "my steps"
      refine wpC_leaf ?_
      walk_at "my steps"
      try dsimp only
      refine wpC_execs_nil (wpC_execs_nil (mw_end (true, _, _) (by assumption) (by assumption) (fun p hp => hp) (by kst_all) ?_ (by show (0 : Nat) < 1; omega)))
      show (Array.size (_ ++ _)) = 1
      rw [Array.size_append]
      omega
  | true =>
    dsimp only [qAt] at F5
    have hc0 : bb.size = 1 := hc
    refine wpC_of ?_
    k_with "my cmp" => rw [hs2]
    walk_at "my steps"
    refine wpC_leaf ?_
    walk_at "my steps"
    refine wpC_leaf ?_
    walk_at "my steps"
    rename News g1 _ _ (_ :: (X, baObj bb) :: news) => N8
    refine call_bytes_ba (N8 _ (.tail _ (.head _))).1 (by unfold sizeLine; omega) fun t9 k9 => ?_
    walk_at "my steps"
    rename News h₀ L _ _ => kN
    rw [hs3] at kN
    rename (_ < _ ∧ X < _ ∧ AllLt _ news) => z7
    rename (_ < _ ∧ _ < _ ∧ X < _ ∧ AllLt _ news) => z8
    exact hret _ _ _ _ (by k_asm) (nw_22 kN) ⟨_, _, _, _, _, _, _, ktn_ltOf z7.2.2, z8.1, rfl, rfl⟩
theorem fresh_keys : True := by
  w_top off
  k_with_none
  trivial
def kwV : List Value := [.str (Str.ofString "break") 272, .str (Str.ofString "case") 273, .str (Str.ofString "chan") 274, .str (Str.ofString "const") 275, .str (Str.ofString "continue") 276, .str (Str.ofString "default") 277, .str (Str.ofString "defer") 278, .str (Str.ofString "else") 279, .str (Str.ofString "fallthrough") 280, .str (Str.ofString "for") 281, .str (Str.ofString "func") 282, .str (Str.ofString "go") 283, .str (Str.ofString "goto") 284, .str (Str.ofString "if") 285, .str (Str.ofString "\x69mport") 286, .str (Str.ofString "interface") 287, .str (Str.ofString "map") 288, .str (Str.ofString "package") 289, .str (Str.ofString "range") 290, .str (Str.ofString "return") 291, .str (Str.ofString "select") 292, .str (Str.ofString "struct") 293, .str (Str.ofString "switch") 294, .str (Str.ofString "type") 295, .str (Str.ofString "var") 296]
def kwS : List Str := kwV.map strOf
theorem kw_are : StrsAre kwV kwS := by
  unfold kwS kwV
  simp only [List.map_cons, List.map_nil, strOf]
  repeat constructor
def enV : List Value := [.str (Str.ofString "break") 346, .str (Str.ofString "continue") 347, .str (Str.ofString "fallthrough") 348, .str (Str.ofString "return") 349, .str (Str.ofString "++") 350, .str (Str.ofString "--") 351, .str (Str.ofString ")") 352, .str (Str.ofString "]") 353, .str (Str.ofString "}") 354]
def enS : List Str := enV.map strOf
theorem en_are : StrsAre enV enS := by
  unfold enS enV
  simp only [List.map_cons, List.map_nil, strOf]
  repeat constructor
/-- what a call of read_word tells: the row and the place behind it -/
def WPost (news : List (Addr × Obj)) (kd told : Str) (k : Int) (r : Value) (nw : List (Addr × Obj)) : Prop :=
  ∃ a1 a2 u1 u2 u3 u4 v, (∀ q ∈ news, q.1 < a1) ∧ a1 < a2 ∧ nw = (a2, tupO [.ref a1, .int (k + (told.length : Int)) u1]) :: (a1, tupO [.str kd u2, .str told u3, .int k u4, v]) :: news ∧ r = .ref a2
local macro_rules | `(tactic| walk_at "compareOp In str ref") => `(tactic| (k_here; (with_reducible show wpAny _ _ (compareOp CmpOp.In (Value.str _ _) (Value.ref 64)) _ _ _); (with_unfolding_all refine' in_tuple_strs (items := kwV.toArray) (ys := kwS) ?k1 kw_are ?_; (case k1 => exact Fr.tup (by k_asm) (tupK (by k_asm) (by k_is))); k_whole)))
local macro_rules | `(tactic| walk_at "compareOp In str ref") => `(tactic| (k_here; (with_reducible show wpAny _ _ (compareOp CmpOp.In (Value.str _ _) (Value.ref 66)) _ _ _); (with_unfolding_all refine' in_tuple_strs (items := enV.toArray) (ys := enS) ?k1 en_are ?_; (case k1 => exact Fr.tup (by k_asm) (tupK (by k_asm) (by k_is))); k_whole)))
theorem fresh_name : True := by
  w_top off
  k_with_none
  trivial
abbrev NBs : Str := Str.ofString "abcdefghijklmnopqrstuvwxyzABCDEFGHIJKLMNOPQRSTUVWXYZ_"
abbrev NSs : Str := Str.ofString "abcdefghijklmnopqrstuvwxyzABCDEFGHIJKLMNOPQRSTUVWXYZ_0123456789"
abbrev occN (it : Str) : Bool := (Builtin.Str.occurrences (Str.ofString "abcdefghijklmnopqrstuvwxyzABCDEFGHIJKLMNOPQRSTUVWXYZ_") it 0 (Str.ofString "abcdefghijklmnopqrstuvwxyzABCDEFGHIJKLMNOPQRSTUVWXYZ_").length 1).isEmpty
abbrev occF (it : Str) : Bool := (Builtin.Str.occurrences (Str.ofString "0123456789") it 0 (Str.ofString "0123456789").length 1).isEmpty
set_option maxHeartbeats 8000000 in
theorem name_tel (prog : Program) (w : World) (news : List (Addr × Obj)) (text told kd : Str) (k : Int) (t1 t2 : Tok) (h0 : 0 ≤ k) (h1 : k + 1 ≤ text.length) (h2 : text.length < 100000)
  (hN : occN (Txt.item text k) = false) (hb : rb text NSs k = k + (told.length : Int)) (hs : Txt.slice text (some k) (some (k + (told.length : Int))) = told) (hl : k + (told.length : Int) ≤ text.length)
  (hk' : kd = if kwS.any (· == told) then Str.ofString "keyword" else Str.ofString "name") :
  Tel prog w 167 3 news [.str text t1, .int k t2] (WPost news kd told k) := by
  unfold Tel
  intro p loose mean mg mb dp un gd cn cs a ccd cl outer A₀ base h₀ L m s Q E B F X N T hk hdp hun hret
  refine wpAny_call ?_
  k_dflt ktr_enter
  rename Fr _ _ _ (fun y => _) => FX
  obtain ⟨u, FX2⟩ := kst_ex [(Str.ofString "text", .str text t1), (Str.ofString "at", .int k t2)] FX (by kst_all)
  clear FX
  dsimp only [kstB] at FX2
  k_with_none
  k_with "my call" => (exfalso; simp_all; done)
  k_with "my cmp" => rw [hs]
  walk_at "my steps"
  · rename (kwS.any _) = true => z1
    rw [hs] at z1
    have ek : kd = Str.ofString "keyword" := by rw [hk', z1]; rfl
    subst ek
    rename News h₀ L _ _ => kN
    rw [hs] at kN
    rename (_ ∧ AllLt _ news) => z8
    rename (∀ p ∈ news, p.1 < _) => z7
    exact hret _ _ _ _ (by k_asm) kN ⟨_, _, _, _, _, _, _, z7, z8.1, rfl, rfl⟩
  · rename (kwS.any _) = false => z1
    rw [hs] at z1
    have ek : kd = Str.ofString "name" := by rw [hk', z1]; rfl
    subst ek
    rename News h₀ L _ _ => kN
    rw [hs] at kN
    rename (_ ∧ AllLt _ news) => z8
    rename (∀ p ∈ news, p.1 < _) => z7
    exact hret _ _ _ _ (by k_asm) kN ⟨_, _, _, _, _, _, _, z7, z8.1, rfl, rfl⟩
theorem fresh_word : True := by
  w_top off
  k_with_none
  trivial
set_option maxHeartbeats 8000000 in
theorem word7_tel (prog : Program) (w : World) (news : List (Addr × Obj)) (text : Str) (k : Int) (t1 t2 : Tok) (h0 : 0 ≤ k) (h1 : k + 1 ≤ text.length) (h2 : text.length < 100000) (hi : Txt.item text k = Str.ofString "7")
  (hb : rb text (Str.ofString "abcdefghijklmnopqrstuvwxyzABCDEFGHIJKLMNOPQRSTUVWXYZ_0123456789") k = k + 1)
  (hs : Txt.slice text (some k) (some (k + 1)) = Str.ofString "7") (hn : (Txt.slice text (some (k + 1)) (some (k + 1 + 1)) == Str.ofString ".") = false) :
  Tel prog w 167 4 news [.str text t1, .int k t2] (WPost news (Str.ofString "int") (Str.ofString "7") k) := by
  unfold Tel
  intro p loose mean mg mb dp un gd cn cs a ccd cl outer A₀ base h₀ L m s Q E B F X N T hk hdp hun hret
  refine wpAny_call ?_
  k_dflt ktr_enter
  rename Fr _ _ _ (fun y => _) => FX
  obtain ⟨u, FX2⟩ := kst_ex [(Str.ofString "text", .str text t1), (Str.ofString "at", .int k t2)] FX (by kst_all)
  clear FX
  dsimp only [kstB] at FX2
  k_with_none
  k_with "my cmp" => rw [hi]
  k_with "my call" =>
    (with_reducible show wpAny _ _ (PySem.call (Value.ref 111) _ _) _ _ _)
    ktn_call 0 (number_tel _ _ _ _ _ _ _ (by assumption) (by assumption) (by assumption) (by assumption) (by assumption) (by assumption))
    intro r9 n9 h9 tk9 F9 N9 P9
    obtain ⟨a1, a2, u1, u2, u3, u4, u5, l1, l2, rfl, rfl⟩ := P9
  walk_at "my steps"
  have e : k + ((Str.ofString "7").length : Int) = k + 1 := by
    have : (Str.ofString "7").length = 1 := by decide
    omega
  exact hret _ _ _ _ (by k_asm) (by k_asm) ⟨a1, a2, u1, u2, u3, u4, _, l1, l2, by rw [e], rfl⟩
set_option maxHeartbeats 8000000 in
theorem wordR_tel (prog : Program) (w : World) (news : List (Addr × Obj)) (text : Str) (k : Int) (t1 t2 : Tok) (h0 : 0 ≤ k) (h1 : k + 3 ≤ text.length) (h2 : text.length < 100000) (hi : Txt.item text k = Str.ofString "'")
  (hs1 : Txt.slice text (some (k + 1)) (some (k + 1 + 1)) = Str.ofString "}") (hi1 : Txt.item text (k + 1) = ⟨#[125]⟩) (hs2 : Txt.slice text (some (k + 1 + 1)) (some (k + 1 + 1 + 1)) = Str.ofString "'") (hs3 : Txt.slice text (some k) (some (k + 1 + 1 + 1)) = Str.ofString "'}'") :
  Tel prog w 167 4 news [.str text t1, .int k t2] (WPost news (Str.ofString "rune") (Str.ofString "'}'") k) := by
  unfold Tel
  intro p loose mean mg mb dp un gd cn cs a ccd cl outer A₀ base h₀ L m s Q E B F X N T hk hdp hun hret
  refine wpAny_call ?_
  k_dflt ktr_enter
  rename Fr _ _ _ (fun y => _) => FX
  obtain ⟨u, FX2⟩ := kst_ex [(Str.ofString "text", .str text t1), (Str.ofString "at", .int k t2)] FX (by kst_all)
  clear FX
  dsimp only [kstB] at FX2
  k_with_none
  k_with "my cmp" => rw [hi]
  k_with "my call" =>
    (with_reducible show wpAny _ _ (PySem.call (Value.ref 153) _ _) _ _ _)
    ktn_call 0 (rune_tel _ _ _ _ _ _ _ (by assumption) (by assumption) (by assumption) (by assumption) (by assumption) (by assumption) (by assumption))
    intro r9 n9 h9 tk9 F9 N9 P9
    obtain ⟨a1, a2, u1, u2, u3, u4, u5, l1, l2, rfl, rfl⟩ := P9
  walk_at "my steps"
  have e : k + ((Str.ofString "'}'").length : Int) = k + 1 + 1 + 1 := by
    have : (Str.ofString "'}'").length = 3 := by decide
    omega
  exact hret _ _ _ _ (by k_asm) (by k_asm) ⟨a1, a2, u1, u2, u3, u4, _, l1, l2, by rw [e], rfl⟩
set_option maxHeartbeats 8000000 in
theorem wordS_tel (prog : Program) (w : World) (news : List (Addr × Obj)) (text sg0 : Str) (k : Int) (t1 t2 : Tok) (h0 : 0 ≤ k) (h1 : k + 1 ≤ text.length) (h2 : text.length < 100000)
  (hN : occN (Txt.item text k) = true) (hF : occF (Txt.item text k) = true) (hq : (Txt.item text k == Str.ofString "\"") = false) (hq1 : (Txt.item text k == Str.ofString "`") = false) (hq2 : (Txt.item text k == Str.ofString "'") = false)
  (hf : signsS.find? (mtch text k) = some sg0) :
  Tel prog w 167 4 news [.str text t1, .int k t2] (WPost news (Str.ofString "sign") sg0 k) := by
  unfold Tel
  intro p loose mean mg mb dp un gd cn cs a ccd cl outer A₀ base h₀ L m s Q E B F X N T hk hdp hun hret
  refine wpAny_call ?_
  k_dflt ktr_enter
  rename Fr _ _ _ (fun y => _) => FX
  obtain ⟨u, FX2⟩ := kst_ex [(Str.ofString "text", .str text t1), (Str.ofString "at", .int k t2)] FX (by kst_all)
  clear FX
  dsimp only [kstB] at FX2
  k_with_none
  k_with "my call" =>
    first
    | ((with_reducible show wpAny _ _ (PySem.call (Value.ref 160) _ _) _ _ _)
       ktn_call 0 (sign_tel _ _ _ _ _ _ _ _ (by assumption) (by omega) (by assumption) (by assumption))
       intro r9 n9 h9 tk9 F9 N9 P9
       obtain ⟨a1, a2, u1, u2, u3, u4, l1, l2, rfl, rfl⟩ := P9)
    | ((with_reducible show wpAny _ _ (PySem.call (Value.ref 76) _ _) _ _ _); exfalso; simp_all; done)
    | ((with_reducible show wpAny _ _ (PySem.call (Value.ref 111) _ _) _ _ _); exfalso; simp_all; done)
    | ((with_reducible show wpAny _ _ (PySem.call (Value.ref 139) _ _) _ _ _); exfalso; simp_all; done)
    | ((with_reducible show wpAny _ _ (PySem.call (Value.ref 146) _ _) _ _ _); exfalso; simp_all; done)
    | ((with_reducible show wpAny _ _ (PySem.call (Value.ref 153) _ _) _ _ _); exfalso; simp_all; done)
  walk_at "my steps"
  all_goals first | exact hret _ _ _ _ (by k_asm) (by k_asm) ⟨a1, a2, u1, u2, u3, u4, _, l1, l2, rfl, rfl⟩ | (exfalso; simp_all; done)
theorem fresh_wordc : True := by
  w_top off
  k_with_none
  trivial
set_option maxHeartbeats 8000000 in
theorem wordQ_tel (prog : Program) (w : World) (news : List (Addr × Obj)) (text : Str) (k : Int) (t1 t2 : Tok) (h0 : 0 ≤ k) (h1 : k + 3 ≤ text.length) (h2 : text.length < 100000) (hi : Txt.item text k = Str.ofString "\"")
  (hs1 : Txt.slice text (some (k + 1)) (some (k + 1 + 1)) = Str.ofString "+") (hi1 : Txt.item text (k + 1) = ⟨#[43]⟩) (hs2 : Txt.slice text (some (k + 1 + 1)) (some (k + 1 + 1 + 1)) = Str.ofString "\"") (hs3 : Txt.slice text (some k) (some (k + 1 + 1 + 1)) = Str.ofString "\"+\"") :
  TelC prog w 167 4 news [.str text t1, .int k t2] (WPost news (Str.ofString "text") (Str.ofString "\"+\"") k) := by
  unfold TelC
  intro p loose mean mg mb dp un gd cn cs a ccd cl outer A₀ base h₀ L m s Q B F X N T hk hdp hun hret
  refine wpC_call ?_
  k_dflt (walk_at "my enterK")
  intro g1 L1 h3 FG F1 N1 B1 X1 T1 l1
  try dsimp only
  obtain ⟨u, FX2⟩ := kst_ex [(Str.ofString "text", .str text t1), (Str.ofString "at", .int k t2)] F1 (by kst_all)
  clear F1
  dsimp only [kstB] at FX2
  k_with_none
  k_with "my cmp" => rw [hi]
  refine wpC_leaf ?_
  walk_at "my steps"
  refine wpC_leaf ?_
  walk_at "my steps"
  refine wpC_leaf ?_
  walk_at "my steps"

  refine wpC_execs_cons (wpC_IfL ?_)
  walk_at "my steps"
  refine wpC_execs_cons (wpC_Return (wpC_Call_Name ?_))
  walk_at "my steps"
  refine wpC_callWith_K (K := K9 w.params) (by k_is) ?_
  walk_at "my steps"
  ktn_call 2 (quoted_tel _ _ _ _ _ _ _ (by assumption) (by assumption) (by assumption) (by assumption) (by assumption) (by assumption) (by assumption))
  intro r9 n9 h9 tk9 F9 N9 P9
  obtain ⟨a1, a2, u1, u2, u3, u4, v4, l1, l2, rfl, rfl⟩ := P9
  walk_at "my steps"
  have e : k + ((Str.ofString "\"+\"").length : Int) = k + 1 + 1 + 1 := by
    have : (Str.ofString "\"+\"").length = 3 := by decide
    omega
  exact hret _ _ _ _ (by k_asm) (by k_asm) ⟨a1, a2, u1, u2, u3, u4, _, l1, l2, by rw [e], rfl⟩
set_option maxHeartbeats 8000000 in
theorem wordB_tel (prog : Program) (w : World) (news : List (Addr × Obj)) (text : Str) (k : Int) (t1 t2 : Tok) (h0 : 0 ≤ k) (h1 : k + 5 ≤ text.length) (h2 : text.length < 100000) (hi : Txt.item text k = Str.ofString "`")
  (hf : Txt.find3 text (Str.ofString "`") (k + 1) = k + 4) (hi3 : ∀ i : Nat, i < 3 → ∃ d : Nat, d < 128 ∧ d ≠ 13 ∧ Txt.item text (k + 1 + (i : Int)) = ⟨#[d]⟩) (hs : Txt.slice text (some k) (some (k + 4 + 1)) = Str.ofString "`;\n+`") :
  TelC prog w 167 4 news [.str text t1, .int k t2] (WPost news (Str.ofString "text") (Str.ofString "`;\n+`") k) := by
  unfold TelC
  intro p loose mean mg mb dp un gd cn cs a ccd cl outer A₀ base h₀ L m s Q B F X N T hk hdp hun hret
  refine wpC_call ?_
  k_dflt (walk_at "my enterK")
  intro g1 L1 h3 FG F1 N1 B1 X1 T1 l1
  try dsimp only
  obtain ⟨u, FX2⟩ := kst_ex [(Str.ofString "text", .str text t1), (Str.ofString "at", .int k t2)] F1 (by kst_all)
  clear F1
  dsimp only [kstB] at FX2
  k_with_none
  k_with "my cmp" => rw [hi]
  refine wpC_leaf ?_
  walk_at "my steps"
  refine wpC_leaf ?_
  walk_at "my steps"
  refine wpC_leaf ?_
  walk_at "my steps"
  refine wpC_leaf ?_
  walk_at "my steps"
  refine wpC_execs_cons (wpC_IfL ?_)
  walk_at "my steps"
  refine wpC_execs_cons (wpC_Return (wpC_Call_Name ?_))
  walk_at "my steps"
  refine wpC_callWith_K (K := K9 w.params) (by k_is) ?_
  walk_at "my steps"
  ktn_call 2 (raw_tel _ _ _ _ _ _ _ (by assumption) (by assumption) (by assumption) (by assumption) (by assumption) (by assumption))
  intro r9 n9 h9 tk9 F9 N9 P9
  obtain ⟨a1, a2, u1, u2, u3, u4, v4, l1, l2, rfl, rfl⟩ := P9
  walk_at "my steps"
  have e : k + ((Str.ofString "`;\n+`").length : Int) = k + 4 + 1 := by
    have : (Str.ofString "`;\n+`").length = 5 := by decide
    omega
  exact hret _ _ _ _ (by k_asm) (by k_asm) ⟨a1, a2, u1, u2, u3, u4, _, l1, l2, by rw [e], rfl⟩
theorem fresh_words : True := by
  w_top off
  k_with_none
  trivial
/-- the words of the law's menu: (kind, how it is told, whether a row may end behind it) -/
def WORDS : List (Str × Str × Bool) := [(Str.ofString "name", Str.ofString "a", true), (Str.ofString "name", Str.ofString "returns", true), (Str.ofString "int", Str.ofString "7", true), (Str.ofString "rune", Str.ofString "'}'", true), (Str.ofString "text", Str.ofString "\"+\"", true), (Str.ofString "text", Str.ofString "`;\n+`", true), (Str.ofString "keyword", Str.ofString "break", true), (Str.ofString "keyword", Str.ofString "continue", true), (Str.ofString "keyword", Str.ofString "fallthrough", true), (Str.ofString "keyword", Str.ofString "return", true), (Str.ofString "keyword", Str.ofString "range", false), (Str.ofString "keyword", Str.ofString "if", false), (Str.ofString "keyword", Str.ofString "default", false), (Str.ofString "keyword", Str.ofString "goto", false), (Str.ofString "keyword", Str.ofString "func", false), (Str.ofString "sign", Str.ofString "++", true), (Str.ofString "sign", Str.ofString "--", true), (Str.ofString "sign", Str.ofString ")", true), (Str.ofString "sign", Str.ofString "]", true), (Str.ofString "sign", Str.ofString "}", true), (Str.ofString "sign", Str.ofString "+", false), (Str.ofString "sign", Str.ofString "(", false), (Str.ofString "sign", Str.ofString "{", false), (Str.ofString "sign", Str.ofString ",", false), (Str.ofString "sign", Str.ofString ";", false), (Str.ofString "sign", Str.ofString "<-", false), (Str.ofString "sign", Str.ofString "...", false), (Str.ofString "sign", Str.ofString "=", false), (Str.ofString "sign", Str.ofString "*", false)]
def nameOk (w : Str × Str × Bool) : Bool := (tl w.2.1).all (fun d => NSs.cps.contains d) && (match tl w.2.1 with | d :: _ => !occN ⟨#[d]⟩ | [] => false) && (w.1 == if kwS.any (· == w.2.1) then Str.ofString "keyword" else Str.ofString "name")
def signOk (w : Str × Str × Bool) : Bool := (match tl w.2.1 with | d :: _ => occN ⟨#[d]⟩ && occF ⟨#[d]⟩ && d != 34 && d != 96 && d != 39 | [] => false) && (w.1 == Str.ofString "sign") && (signsS.find? (fun sg => (tl w.2.1).take sg.length == tl sg) == some w.2.1)
theorem words_cls : ∀ w ∈ WORDS, nameOk w = true ∨ signOk w = true ∨ (w.1 = Str.ofString "int" ∧ w.2.1 = Str.ofString "7") ∨ (w.1 = Str.ofString "rune" ∧ w.2.1 = Str.ofString "'}'") ∨ (w.1 = Str.ofString "text" ∧ w.2.1 = Str.ofString "\"+\"") ∨ (w.1 = Str.ofString "text" ∧ w.2.1 = Str.ofString "`;\n+`") := by decide +kernel
theorem signs_nb : ∀ sg ∈ signsS, ∀ d ∈ tl sg, blankL.contains d = false := by decide +kernel
theorem str_ext {x y : Str} (h : tl x = tl y) : x = y := by
  cases x; cases y
  simp only [tl] at h
  congr 1
  exact Array.toList_inj.mp h
theorem str_of (L : List Nat) : tl (⟨L.toArray⟩ : Str) = L := by simp [tl]
def follow (rest : List Nat) : Prop := rest = [] ∨ ∃ d r, rest = d :: r ∧ blankL.contains d = true
theorem blank_cases {d : Nat} (h : blankL.contains d = true) : d = 32 ∨ d = 9 ∨ d = 13 ∨ d = 10 := by simpa [blankL] using h
theorem blank_noname {d : Nat} (h : blankL.contains d = true) : NSs.cps.contains d = false := by
  rcases blank_cases h with rfl | rfl | rfl | rfl <;> decide +kernel
theorem mtch_iff {L rest : List Nat} {sg : Str} (hr : follow rest) (hb : ∀ d ∈ tl sg, blankL.contains d = false) : ((⟨((L ++ rest).take sg.length).toArray⟩ : Str) == sg) = (L.take sg.length == tl sg) := by
  rw [Bool.eq_iff_iff, beq_iff_eq, beq_iff_eq]
  have hl : (tl sg).length = sg.length := tl_len sg
  constructor
  · intro h
    have h2 : (L ++ rest).take sg.length = tl sg := by have := congrArg tl h; rwa [str_of] at this
    by_cases hn : sg.length ≤ L.length
    · rw [List.take_append_of_le_length hn] at h2; exact h2
    · rcases hr with rfl | ⟨d, r, rfl, hd⟩
      · rw [List.append_nil] at h2; exact h2
      · have hm : d ∈ tl sg := by
          rw [← h2, List.take_append]
          refine List.mem_append_right _ ?_
          obtain ⟨j, hj⟩ : ∃ j, sg.length - L.length = j + 1 := ⟨sg.length - L.length - 1, by omega⟩
          rw [hj]
          exact List.Mem.head _
        rw [hb d hm] at hd; cases hd
  · intro h
    refine str_ext ?_
    rw [str_of]
    have hn : sg.length ≤ L.length := by
      have := congrArg List.length h
      rw [List.length_take, hl] at this; omega
    rw [List.take_append_of_le_length hn]; exact h
theorem fresh_wtel : True := by
  w_top off
  k_with_none
  trivial
theorem find_congr {α : Type} {p q : α → Bool} : ∀ {l : List α}, (∀ a ∈ l, p a = q a) → l.find? p = l.find? q
  | [], _ => rfl
  | a :: l, h => by
    rw [List.find?_cons, List.find?_cons, h a (.head _), find_congr fun b hb => h b (.tail _ hb)]
theorem followU {us : List U} {kd t : Str} {e : Bool} (ok : okU (.word kd t e :: us)) : follow (rend us) := by
  rcases ok.2.1 with rfl | ⟨d, vs, rfl⟩
  · exact .inl rfl
  · exact .inr ⟨d, rend vs, rend_cons _ _, ok.2.2.1⟩
theorem word_telC (prog : Program) (w : World) (news : List (Addr × Obj)) (text kd told : Str) (e : Bool) (us : List U) (k : Int) (t1 t2 : Tok) (hm : (kd, told, e) ∈ WORDS) (h : AtU text k (.word kd told e :: us)) (ok : okU (.word kd told e :: us)) (h2 : text.length < 100000) :
    TelC prog w 167 4 news [.str text t1, .int k t2] (WPost news kd told k) := by
  have hr := followU ok
  obtain ⟨hlen, h0⟩ := h.len
  have hrend : rend (.word kd told e :: us) = tl told ++ rend us := rend_cons _ _
  rw [hrend, List.length_append, tl_len] at hlen
  have hsl : ∀ n : Nat, Txt.slice text (some k) (some (k + (n : Int))) = ⟨((tl told ++ rend us).take n).toArray⟩ := fun n => by
    have := h.slice n (by omega)
    rw [hrend] at this
    simpa using this
  have hs : Txt.slice text (some k) (some (k + (told.length : Int))) = told := by
    rw [hsl]
    refine str_ext ?_
    rw [str_of, List.take_append_of_le_length (by rw [tl_len]; exact Nat.le_refl _), List.take_of_length_le (by rw [tl_len]; exact Nat.le_refl _)]
  have hitem : ∀ (i d : Nat) (r : List Nat), (tl told ++ rend us).drop i = d :: r → Txt.item text (k + (i : Int)) = ⟨#[d]⟩ := fun i d r hd => by
    have hi : i < (tl told ++ rend us).length := by
      have := congrArg List.length hd
      rw [List.length_drop, List.length_cons] at this
      omega
    rw [List.length_append, tl_len] at hi
    obtain ⟨d', e1, e2⟩ := item_tl (x := text) (i := k + (i : Int)) (by omega) (by omega)
    rw [e2]
    have hd2 := drop_at e1
    have : (k + (i : Int)).toNat = k.toNat + i := by omega
    rw [this, ← List.drop_drop, h.drop, hrend, hd] at hd2
    rw [(List.cons.inj hd2).1]
  have hitem0 : ∀ (d : Nat) (r : List Nat), (tl told ++ rend us) = d :: r → Txt.item text k = ⟨#[d]⟩ := fun d r hd => by
    have := hitem 0 d r hd
    simpa using this
  have hrb : (∀ d ∈ tl told, NSs.cps.contains d = true) → rb text NSs k = k + (told.length : Int) := fun hall => by
    rw [h.rb, hrend, tw_append hall (by
      rcases hr with e | ⟨d, r, e, hd⟩
      · exact .inl e
      · exact .inr ⟨d, r, e, blank_noname hd⟩), tl_len]
  have hsl2 : ∀ i n : Nat, i ≤ (tl told ++ rend us).length → Txt.slice text (some (k + (i : Int))) (some (k + (i : Int) + (n : Int))) = ⟨(((tl told ++ rend us).drop i).take n).toArray⟩ := fun i n hi => by
    rw [← hrend] at hi ⊢
    exact h.slice2 hi
  rcases words_cls _ hm with hc | hc | ⟨e1, e2⟩ | ⟨e1, e2⟩ | ⟨e1, e2⟩ | ⟨e1, e2⟩
  · simp only [nameOk, Bool.and_eq_true, List.all_eq_true, beq_iff_eq] at hc
    obtain ⟨⟨c1, c2⟩, c3⟩ := hc
    cases hd : tl told with
    | nil => rw [hd] at c2; cases c2
    | cons d r =>
      rw [hd] at c2
      have hi := hitem0 d (r ++ rend us) (by rw [hd]; rfl)
      have hl1 : 1 ≤ told.length := by rw [← tl_len, hd, List.length_cons]; omega
      exact ((name_tel prog w news text told kd k t1 t2 h0 (by omega) h2 (by rw [hi]; simpa using c2) (hrb c1) hs (by omega) c3).toC).mono (by omega) fun _ _ x => x
  · simp only [signOk, Bool.and_eq_true, beq_iff_eq] at hc
    obtain ⟨⟨c1, c3⟩, c2⟩ := hc
    subst c3
    cases hd : tl told with
    | nil => rw [hd] at c1; cases c1
    | cons d r =>
      rw [hd] at c1
      simp only [Bool.and_eq_true, bne_iff_ne] at c1
      obtain ⟨⟨⟨⟨a1, a2⟩, a3⟩, a4⟩, a5⟩ := c1
      have hi := hitem0 d (r ++ rend us) (by rw [hd]; rfl)
      have hl1 : 1 ≤ told.length := by rw [← tl_len, hd, List.length_cons]; omega
      have ne : ∀ (c : Nat) (s : Str), tl s = [c] → d ≠ c → ((⟨#[d]⟩ : Str) == s) = false := fun c s hs hne => by
        rw [beq_eq_false_iff_ne]
        intro e
        have := congrArg tl e
        rw [hs] at this
        exact hne (by simpa [tl] using this)
      refine ((wordS_tel prog w news text told k t1 t2 h0 (by omega) h2 (by rw [hi]; exact a1) (by rw [hi]; exact a2) (by rw [hi]; exact ne 34 _ (by decide +kernel) a3) (by rw [hi]; exact ne 96 _ (by decide +kernel) a4) (by rw [hi]; exact ne 39 _ (by decide +kernel) a5) ?_).toC)
      rw [← c2]
      refine find_congr ?_
      intro sg hsg
      show (Txt.slice text (some k) (some (k + (sg.length : Int))) == sg) = _
      rw [hsl]
      exact mtch_iff hr (signs_nb sg hsg)
  · dsimp only at e1 e2
    subst e1 e2
    have ht : tl (Str.ofString "7") = [55] := by decide +kernel
    rw [ht] at hsl hitem hitem0 hsl2
    have hl1 : (Str.ofString "7").length = 1 := by decide
    rw [hl1] at hs hrb hlen
    refine (word7_tel prog w news text k t1 t2 h0 (by omega) h2 ((hitem0 55 _ rfl).trans (by decide +kernel)) (hrb (by rw [ht]; decide +kernel)) hs ?_).toC
    have := hsl2 1 1 (by simp)
    rw [show (k + ((1 : Nat) : Int)) = k + 1 from rfl, show k + 1 + ((1 : Nat) : Int) = k + 1 + 1 from rfl] at this
    rw [this, beq_eq_false_iff_ne]
    intro e
    have e3 := congrArg tl e
    rw [str_of, show tl (Str.ofString ".") = [46] by decide +kernel] at e3
    rcases hr with e4 | ⟨d, r, e4, hd⟩
    · rw [e4] at e3; cases e3
    · rw [e4] at e3
      have : d = 46 := by simpa using e3
      subst this
      cases hd
  · dsimp only at e1 e2
    subst e1 e2
    have ht : tl (Str.ofString "'}'") = [39, 125, 39] := by decide +kernel
    rw [ht] at hsl hitem hitem0 hsl2
    have hl1 : (Str.ofString "'}'").length = 3 := by decide
    rw [hl1] at hs hrb hlen
    refine (wordR_tel prog w news text k t1 t2 h0 (by omega) h2 ((hitem0 39 _ rfl).trans (by decide +kernel)) ?_ ?_ ?_ ?_).toC
    · exact (hsl2 1 1 (by simp)).trans (str_ext (by rw [str_of]; show [125] = tl (Str.ofString "}"); decide +kernel))
    · exact hitem 1 125 _ rfl
    · rw [show k + 1 + 1 = k + ((2 : Nat) : Int) by omega]
      exact (hsl2 2 1 (by simp)).trans (str_ext (by rw [str_of]; show [39] = tl (Str.ofString "'"); decide +kernel))
    · rw [show k + 1 + 1 + 1 = k + ((3 : Nat) : Int) by omega]; exact hs
  · dsimp only at e1 e2
    subst e1 e2
    have ht : tl (Str.ofString "\"+\"") = [34, 43, 34] := by decide +kernel
    rw [ht] at hsl hitem hitem0 hsl2
    have hl1 : (Str.ofString "\"+\"").length = 3 := by decide
    rw [hl1] at hs hrb hlen
    refine wordQ_tel prog w news text k t1 t2 h0 (by omega) h2 ((hitem0 34 _ rfl).trans (by decide +kernel)) ?_ ?_ ?_ ?_
    · exact (hsl2 1 1 (by simp)).trans (str_ext (by rw [str_of]; show [43] = tl (Str.ofString "+"); decide +kernel))
    · exact hitem 1 43 _ rfl
    · rw [show k + 1 + 1 = k + ((2 : Nat) : Int) by omega]
      exact (hsl2 2 1 (by simp)).trans (str_ext (by rw [str_of]; show [34] = tl (Str.ofString "\""); decide +kernel))
    · rw [show k + 1 + 1 + 1 = k + ((3 : Nat) : Int) by omega]; exact hs
  · dsimp only at e1 e2
    subst e1 e2
    have ht : tl (Str.ofString "`;\n+`") = [96, 59, 10, 43, 96] := by decide +kernel
    rw [ht] at hsl hitem hitem0 hsl2
    have hl1 : (Str.ofString "`;\n+`").length = 5 := by decide
    rw [hl1] at hs hrb hlen
    refine wordB_tel prog w news text k t1 t2 h0 (by omega) h2 ((hitem0 96 _ rfl).trans (by decide +kernel)) ?_ ?_ ?_
    · obtain ⟨A, q1, q2⟩ := h
      rw [hrend, ht] at q1
      have := find3_L (x := text) (y := Str.ofString "`") (A := A ++ [96]) (B := [59, 10, 43, 96] ++ rend us) (c := k + 1) (by rw [q1]; simp) (by rw [List.length_append]; simp; omega)
      rw [this, show tl (Str.ofString "`") = [96] by decide +kernel]
      have : findL [96] ([59, 10, 43, 96] ++ rend us) = some 3 := by simp [findL]
      rw [this]
      show k + 1 + ((3 : Nat) : Int) = k + 4
      omega
    · intro i hi
      have key : i = 0 ∨ i = 1 ∨ i = 2 := by omega
      rcases key with rfl | rfl | rfl
      · exact ⟨59, by decide, by decide, (by rw [show k + 1 + ((0 : Nat) : Int) = k + ((1 : Nat) : Int) by omega]; exact hitem 1 59 _ rfl)⟩
      · exact ⟨10, by decide, by decide, (by rw [show k + 1 + ((1 : Nat) : Int) = k + ((2 : Nat) : Int) by omega]; exact hitem 2 10 _ rfl)⟩
      · exact ⟨43, by decide, by decide, (by rw [show k + 1 + ((2 : Nat) : Int) = k + ((3 : Nat) : Int) by omega]; exact hitem 3 43 _ rfl)⟩
    · rw [show k + 4 + 1 = k + ((5 : Nat) : Int) by omega]; exact hs
theorem fresh_ends : True := by
  w_top off
  k_with_none
  trivial
def endsB (kd told : Str) : Bool := ([Str.ofString "name", Str.ofString "int", Str.ofString "rune", Str.ofString "text"].any (· == kd)) || enS.any (· == told)
theorem words_ends : ∀ w ∈ WORDS, endsB w.1 w.2.1 = w.2.2 := by decide +kernel
set_option maxHeartbeats 8000000 in
theorem ends_tel (prog : Program) (w : World) (news : List (Addr × Obj)) (a1 : Addr) (kd told : Str) (u1 u2 : Tok) (v1 v2 : Value) :
  Tel prog w 174 1 ((a1, tupO [.str kd u1, .str told u2, v1, v2]) :: news) [.ref a1] (fun r nw => nw = (a1, tupO [.str kd u1, .str told u2, v1, v2]) :: news ∧ r = .bool (endsB kd told)) := by
  unfold Tel
  intro p loose mean mg mb dp un gd cn cs a ccd cl outer A₀ base h₀ L m s Q E B F X N T hk hdp hun hret
  refine wpAny_call ?_
  k_dflt ktr_enter
  rename Fr _ _ _ (fun y => _) => FX
  obtain ⟨u, FX2⟩ := kst_ex [(Str.ofString "word", .ref a1)] FX (by kst_all)
  clear FX
  dsimp only [kstB] at FX2
  k_with_none
  walk_at "my steps"
  all_goals
    rename ((List.any _ _) = _) => z1
    rename News h₀ L _ _ => kN
    exact hret _ _ _ _ (by k_asm) (fun p hp => kN p (.tail _ hp)) ⟨rfl, congrArg Value.bool (by unfold endsB; rw [z1]; first | rfl | simp)⟩
theorem fresh_lists : True := by
  w_top off
  k_with_none
  trivial
theorem idx_int' : typeLookup (.type "int") (Str.ofString "__index__") = pure (some (.builtin "int.__index__")) := by rw [typeLookup_type, builtinLookup_eq_fast]; kernel_rfl
theorem sub_tt : isSubtype (.type "tuple") (.type "tuple") = pure true := by rw [isSubtype_type]; kernel_rfl
theorem sub_ll : isSubtype (.type "list") (.type "list") = pure true := by rw [isSubtype_type]; kernel_rfl
theorem sub_tl : isSubtype (.type "tuple") (.type "list") = pure false := by rw [isSubtype_type]; kernel_rfl
theorem sub_lt : isSubtype (.type "list") (.type "tuple") = pure false := by rw [isSubtype_type]; kernel_rfl
theorem list_ne_len (l : Addr) (items : Array Value) (n : Nat) (b : Addr) (items2 : Array Value) (n2 : Nat) (hc0 : (items.size != items2.size) = true) :
    Meets (Builtin.«list.__ne__» ⟨[.ref l, .ref b], []⟩) (fun _ R s => s.heap.get? l = some { cls := .type "list", dict := none, data := .seq items n, slots := #[] } ∧ s.heap.get? b = some { cls := .type "list", dict := none, data := .seq items2 n2, slots := #[] } ∧ R (.ok (.ret (Value.bool true))) { s with heap := s.heap, toks := s.toks }) :=
  .of_wp fun prog w A R s h => by obtain ⟨hp, g, d, tk, os⟩ := s; obtain ⟨hl, hb, h⟩ := h; have f1 := idx_int'; have f2 := sub_tt; have f3 := sub_ll; have f4 := sub_tl; have f5 := sub_lt; wp_walk using wpAny_loadPart' hl, wpAny_loadPart' hb; exact ⟨_, rfl, h⟩
theorem ne_len {prog : Program} {w : World} {A : Around} {E : Value → Shared → Prop} {s : Shared} {l b : Addr} {items items2 : Array Value} {n n2 : Nat} {Q : Value → Shared → Prop} (hl : s.heap.get? l = some (listOf items n)) (hb : s.heap.get? b = some (listOf items2 n2)) (hsz : (items.size != items2.size) = true) (hu : A.units < cLine)
    (h : Q (.bool true) s) : wpAny (model prog w) A (compareOp .NotEq (.ref l) (.ref b)) Q E s :=
  richCompare_meets_room (op := .NotEq) ⟨_, hl, rfl⟩ ⟨_, hb, rfl⟩ PySem.F.slot_list_ne PySem.F.entry_list_ne (PySem.F.args_list_ne_2 _ _) (list_ne_len l items n b items2 n2 hsz)
    ⟨hl, hb, show Value.bool true ≠ Value.notImplemented ∧ Q (.bool true) s from ⟨(fun x => nomatch x), h⟩⟩ hu
theorem fresh_rowsp : True := by
  w_top off
  k_with_none
  trivial
/-- a row of the list that word_rows builds -/
structure Rw where
  a : Addr
  kd : Str
  told : Str
  pos : Int
  u1 : Tok
  u2 : Tok
  u3 : Tok
  v : Value
def Rw.ref (r : Rw) : Value := .ref r.a
def Rw.obj (r : Rw) : Obj := tupO [.str r.kd r.u1, .str r.told r.u2, .int r.pos r.u3, r.v]
def Rw.cell (r : Rw) : Addr × Obj := (r.a, tupO [.str r.kd r.u1, .str r.told r.u2, .int r.pos r.u3, r.v])
def Rw.dat (r : Rw) : Str × Str × Int := (r.kd, r.told, r.pos)
def semi (b : Option Int) (prev : Bool) : List (Str × Str × Int) :=
  match b with
  | some j => if prev then [(Str.ofString "sign", Str.ofString ";", j)] else []
  | none => []
/-- the rows of a text: k the place, b where a row's end was seen since the last word, prev whether a row may end behind the last word -/
def rowsF (k : Int) (b : Option Int) (prev : Bool) : List U → List (Str × Str × Int)
  | [] => semi (b.or (some k)) prev ++ [(Str.ofString "end", Str.ofString "", k)]
  | .word kd t e :: us => semi b prev ++ (kd, t, k) :: rowsF (k + (t.length : Int)) none e us
  | g :: us => rowsF (k + (g.rend.length : Int)) (b.or (if g.brk then some k else none)) prev us
def kofI (k : Int) (o : Option Nat) : Option Int := kof k o
theorem rowsF_gap {prev : Bool} {rest : List U} : ∀ {gap : List U} {k : Int} {b : Option Int}, (∀ u ∈ gap, u.gap = true) → rowsF k b prev (gap ++ rest) = rowsF (k + ((rend gap).length : Int)) (b.or (kof k (fbrk gap))) prev rest
  | [], k, b, _ => by simp [rend, fbrk, kof]
  | g :: gap, k, b, h => by
    have hg := h g (.head _)
    have e1 : rowsF k b prev (g :: (gap ++ rest)) = rowsF (k + (g.rend.length : Int)) (b.or (if g.brk then some k else none)) prev (gap ++ rest) := by
      cases g with
      | word kd t e => simp [U.gap] at hg
      | _ => rfl
    rw [List.cons_append, e1, rowsF_gap fun u hu => h u (.tail _ hu), rend_cons, List.length_append]
    have e2 : k + (g.rend.length : Int) + ((rend gap).length : Int) = k + ((g.rend.length + (rend gap).length : Nat) : Int) := by omega
    rw [e2]
    congr 1
    have ef : fbrk (g :: gap) = if g.brk then some 0 else (fbrk gap).map (· + g.rend.length) := rfl
    rw [ef]
    cases hb : g.brk
    · simp only [Bool.false_eq_true, if_false, Option.or_none]
      unfold kof
      cases fbrk gap with
      | none => rfl
      | some j =>
        simp only [Option.map_some]
        congr 2
        push_cast
        omega
    · simp only [if_true]
      cases b <;> simp [kof]
def prevB (rs : List Rw) : Bool := match rs.getLast? with
  | some r => endsB r.kd r.told
  | none => false
theorem prevB_snoc (rs : List Rw) (r : Rw) : prevB (rs ++ [r]) = endsB r.kd r.told := by simp [prevB]
def semiR (b : Option Int) (prev : Bool) (a : Addr) (t1 t2 t3 : Tok) : List Rw :=
  match b with
  | some j => if prev then [⟨a, Str.ofString "sign", Str.ofString ";", j, t1, t2, t3, .none⟩] else []
  | none => []
/-- the gap that opens a list of units, and what follows -/
theorem gap_split (us : List U) : ∃ gap rest, us = gap ++ rest ∧ (∀ u ∈ gap, u.gap = true) ∧ wordFirst rest := by
  induction us with
  | nil => exact ⟨[], [], rfl, by simp, trivial⟩
  | cons u us ih =>
    cases h : u.gap with
    | true =>
      obtain ⟨gap, rest, e, h1, h2⟩ := ih
      refine ⟨u :: gap, rest, by rw [e]; rfl, ?_, h2⟩
      intro x hx
      rcases List.mem_cons.mp hx with rfl | hx
      · exact h
      · exact h1 x hx
    | false =>
      refine ⟨[], u :: us, rfl, by simp, ?_⟩
      cases u <;> first | trivial | (simp [U.gap] at h)
section
variable {M : Model} {A : Around} {s : Shared} {env : Env}
def NextAnd (Mid : Shared → Prop) (f : Flow) (s' : Shared) : Prop := f = .next ∧ Mid s'
theorem wpC_cutL {st : Stmt} {rest : List Stmt} {Q : Flow → Shared → Prop} (Mid : Shared → Prop) (h : wpAny M A (exec st env) (NextAnd Mid) nev s) (k : ∀ s', Mid s' → wpC M A (execs rest env) Q s') : wpC M A (execs (st :: rest) env) Q s :=
  wpC_execs_cons (wpC_of (wpAny_mono h (fun f s' h' => by obtain ⟨rfl, hm⟩ := h'; exact k s' hm) fun _ _ x => x))
theorem wpC_cut {st : Stmt} {rest : List Stmt} {Q : Flow → Shared → Prop} (Mid : Shared → Prop) (h : wpC M A (exec st env) (NextAnd Mid) s) (k : ∀ s', Mid s' → wpC M A (execs rest env) Q s') : wpC M A (execs (st :: rest) env) Q s :=
  wpC_execs_cons (wpC_mono h (fun f s' h' => by obtain ⟨rfl, hm⟩ := h'; exact k s' hm))
end
theorem nw_front {h₀ h : Heap} {L : Addr} {p : Addr × Obj} {news : List (Addr × Obj)} (N : News h₀ L h news) (hm : p ∈ news) : News h₀ L h (p :: news) := by
  intro x hx
  rcases List.mem_cons.mp hx with rfl | hx
  · exact N _ hm
  · exact N x hx
theorem nw_tail {h₀ h : Heap} {L : Addr} {p : Addr × Obj} {news : List (Addr × Obj)} (N : News h₀ L h (p :: news)) : News h₀ L h news := fun x hx => N x (.tail _ hx)
def RowsPost (us : List U) (news : List (Addr × Obj)) (r : Value) (nw : List (Addr × Obj)) : Prop :=
  ∃ (D : Addr) (n : Nat) (rs : List Rw), (∀ p ∈ news, p.1 < D) ∧ (∀ x ∈ rs, D < x.a) ∧ nw = (D, listOf (rs.map Rw.ref).toArray n) :: (rs.map Rw.cell ++ news) ∧ r = .ref D ∧ rs.map Rw.dat = rowsF 0 none false us
def MidS (g : Heap) (L : Addr) (s : Shared) (ps : List (Str × Value)) (led : List (Addr × Obj)) (s' : Shared) : Prop :=
  ∃ (u : Str → Option Value) (h' : Heap) (tk : Nat), s' = { s with heap := h', toks := tk } ∧ Fr g L h' (kstB u ps) ∧ News g L h' led
theorem midS {g : Heap} {L : Addr} {s : Shared} {ps : List (Str × Value)} {led news : List (Addr × Obj)} {h' : Heap} {tk : Nat} {m : Str → Option Value} (F : Fr g L h' m) (N : News g L h' news) (hk : ∀ p ∈ ps, m p.1 = some p.2) (hn : ∀ p ∈ led, p ∈ news) : MidS g L s ps led { s with heap := h', toks := tk } := by
  obtain ⟨u, F'⟩ := kst_ex ps F hk
  exact ⟨u, h', tk, rfl, F', fun p hp => N p (hn p hp)⟩
def endB (k : Int) : List U → Option Int
  | [] => some k
  | _ => none
theorem led_grow {news R : List (Addr × Obj)} {vs : List Value} {rs : List Rw} {D : Addr} {n : Nat} {l : List (Addr × Obj)} (hR : rs.map Rw.cell ++ news = R) (hvs : rs.map Rw.ref = vs) (x : Rw) (h1 : x.cell ∈ l) (h2 : (D, W.listOf (vs.toArray.push x.ref) (n + 1)) ∈ l) (h3 : ∀ p ∈ R, p ∈ l) :
    ∀ p ∈ (D, W.listOf ((rs ++ [x]).map Rw.ref).toArray (n + 1)) :: ((rs ++ [x]).map Rw.cell ++ news), p ∈ l := by
  intro p hp
  rcases List.mem_cons.mp hp with rfl | hp
  · rw [List.map_append, hvs]
    simpa using h2
  · rw [List.map_append, List.append_assoc] at hp
    rcases List.mem_append.mp hp with hp | hp
    · exact h3 p (by rw [← hR]; exact List.mem_append_left _ hp)
    · rcases List.mem_append.mp hp with hp | hp
      · rcases List.mem_singleton.mp hp with rfl
        exact h1
      · exact h3 p (by rw [← hR]; exact List.mem_append_right _ hp)
local macro_rules | `(tactic| walk_at "compareOp NotEq ref ref") => `(tactic| k_extra "my ne")
local macro_rules | `(tactic| walk_at "subscriptTail") => `(tactic| k_extra "my sub")
local macro_rules | `(tactic| k_all) => `(tactic| assumption)
local macro_rules | `(tactic| walk_at "call builtin:list.append") => `(tactic| k_extra "my app")
theorem fresh_rows : True := by
  w_top off
  k_with_none
  trivial
structure WS where
  k : Int
  tk : Tok
  us : List U
  rs : List Rw
  n : Nat
set_option maxHeartbeats 8000000 in
theorem rows_tel (prog : Program) (w : World) (news : List (Addr × Obj)) (text : Str) (t1 : Tok) (us0 : List U) (hA : AtU text 0 us0) (ok0 : okU us0) (hW0 : ∀ kd t e, U.word kd t e ∈ us0 → (kd, t, e) ∈ WORDS) (h2 : text.length < 100000) (h4 : us0.length < 100000) :
  TelC prog w 181 12 news [.str text t1] (RowsPost us0 news) := by
  unfold TelC
  intro p loose mean mg mb dp un gd cn cs a ccd cl outer A₀ base h₀ L m s Q B F X N T hk hdp hun hret
  refine wpC_call ?_
  k_dflt (walk_at "my enterK")
  intro g1 L1 h3 FG F1 N1 B1 X1 T1 l1
  try dsimp only
  obtain ⟨u, FX2⟩ := kst_ex [(Str.ofString "text", .str text t1)] F1 (by kst_all)
  clear F1
  dsimp only [kstB] at FX2
  k_with_none
  refine wpC_leaf ?_
  walk_at "my steps"
  rename Fr g1 _ _ (fun y => _) => FX3
  rename News g1 _ _ (_ :: (_, W.listOf #[] 0) :: news) => N4
  rename (∀ (p : Addr × Obj), p ∈ news → p.1 < _) => lD
  obtain ⟨D, ta, u2, FX4, N5, lD2⟩ : ∃ D ta u2, Fr g1 L1 _ (kstB u2 [(Str.ofString "found", .ref D), (Str.ofString "at", .int 0 ta), (Str.ofString "text", .str text t1)]) ∧ News g1 L1 _ ((D, W.listOf #[] 0) :: news) ∧ (∀ p ∈ news, p.1 < D) := ⟨_, _, _, (kst_ex _ FX3 (by kst_all)).choose_spec, nw_tail N4, lD⟩
  clear FX3 N4 lD
  refine toksC ?_
  intro tk2
  refine wpC_execs_cons (wpC_While (h₀ := g1) (L := L1) (σ := WS) (fun c => (D, W.listOf (c.rs.map Rw.ref).toArray c.n) :: (c.rs.map Rw.cell ++ news)) (fun c => [(Str.ofString "found", Value.ref D), (Str.ofString "at", .int c.k c.tk), (Str.ofString "text", .str text t1)])
    (fun c => AtU text c.k c.us ∧ okU c.us ∧ (∀ kd t e, U.word kd t e ∈ c.us → (kd, t, e) ∈ WORDS) ∧ (∀ x ∈ c.rs, D < x.a) ∧ c.rs.length + 2 * c.us.length ≤ 2 * us0.length ∧ c.rs.map Rw.dat ++ rowsF c.k none (prevB c.rs) c.us = rowsF 0 none false us0) (fun c => c.us.length) ⟨0, ta, us0, [], 0⟩ FX4 N5 (by intro p hp; simpa using hp) (by kst_all) ⟨hA, ok0, hW0, by simp, by simp, by simp [prevB]⟩ ?_)
  rintro ⟨k, tk, us, rs, n⟩ u5 h5 tk5 ⟨hAt, ok, hW, hD, hC, hE⟩ F5 N5
  dsimp only [kstB] at F5 N5 hAt ok hW hD hC hE
  clear FX4
  refine wpC_of ?_
  walk_at "my steps"
  obtain ⟨gap, rest, rfl, hg, hwf⟩ := gap_split us
  rw [rowsF_gap hg] at hE
  have hAt2 := hAt.move
  obtain ⟨hl, hk0⟩ := hAt.len
  rw [rend_append, List.length_append] at hl
  obtain ⟨R, hR⟩ : ∃ R, rs.map Rw.cell ++ news = R := ⟨_, rfl⟩
  obtain ⟨vs, hvs⟩ : ∃ vs, rs.map Rw.ref = vs := ⟨_, rfl⟩
  rw [hR, hvs] at N5
  refine wpC_cutL (fun s' => ∃ t tb : Tok, MidS g1 L1 s [(Str.ofString "at", .int (k + ((rend gap).length : Int)) t), (Str.ofString "broken", bval tb (kof k (fbrk gap))), (Str.ofString "found", Value.ref D), (Str.ofString "text", .str text t1)] ((D, W.listOf vs.toArray n) :: R) s') ?_ ?_
  · k_with "my call" =>
      (with_reducible show wpAny _ _ (PySem.call (Value.ref 90) _ _) _ _ _)
      ktn_call 0 (blanks_tel _ _ _ _ _ _ _ gap rest hAt hg hwf ok h2)
      intro r9 n9 h9 tk9 F9 N9 P9
      obtain ⟨a9, t9, t9', l9, rfl, rfl⟩ := P9
    walk_at "my steps"
    exact ⟨rfl, _, _, midS (by assumption) (by assumption) (by kst_all) (fun p hp => by first | exact hp | exact .tail _ hp)⟩
  · rintro s6 ⟨t6, tb6, u6, h6, tk6, rfl, F6, N6⟩
    obtain ⟨k1, hk1⟩ : ∃ k1, k + ((rend gap).length : Int) = k1 := ⟨_, rfl⟩
    obtain ⟨ob, hob⟩ : ∃ ob, kof k (fbrk gap) = ob := ⟨_, rfl⟩
    rw [hk1, hob] at F6 hE
    rw [hk1] at hAt2
    have hk10 : 0 ≤ k1 := by omega
    have hlen : (rest = [] ∧ (text.length : Int) = k1) ∨ (∃ kd t e us', rest = .word kd t e :: us' ∧ k1 + (t.length : Int) + ((rend us').length : Int) = (text.length : Int) ∧ 0 < t.length ∧ k1 < text.length) := by
      cases rest with
      | nil => exact .inl ⟨rfl, by rw [hl, show (rend ([] : List U)).length = 0 from rfl]; omega⟩
      | cons x us' =>
        cases x with
        | word kd t e =>
          obtain ⟨⟨d, r, h1, _⟩, _⟩ := okU_append ok
          have ht : 0 < t.length := by rw [← tl_len, show tl t = d :: r from h1]; simp
          refine .inr ⟨kd, t, e, us', rfl, ?_, ht, ?_⟩
          · rw [hl, rend_cons, List.length_append, U.rend, show t.cps.toList.length = t.length from tl_len t]; omega
          · rw [hl, rend_cons, List.length_append, U.rend, show t.cps.toList.length = t.length from tl_len t]; omega
        | _ => exact absurd hwf (by simp [wordFirst])
    refine wpC_cutL (fun s' => ∃ tb : Tok, MidS g1 L1 s [(Str.ofString "at", .int k1 t6), (Str.ofString "broken", bval tb (ob.or (endB k1 rest))), (Str.ofString "found", Value.ref D), (Str.ofString "text", .str text t1)] ((D, W.listOf vs.toArray n) :: R) s') ?_ ?_
    · cases ob with
      | none =>
        dsimp only [kstB, bval] at F6
        rcases hlen with ⟨rfl, hl1⟩ | ⟨kd, t, e, us', rfl, hl1, hl2, hl3⟩
        · dsimp only [endB, Option.or]
          walk_at "my steps"
          all_goals first | (exfalso; omega) | exact ⟨rfl, _, midS (by assumption) (by assumption) (by kst_all) (fun p hp => hp)⟩
        · dsimp only [endB, Option.or]
          walk_at "my steps"
          all_goals first | (exfalso; omega) | exact ⟨rfl, 0, midS (by assumption) (by assumption) (by kst_all) (fun p hp => hp)⟩
      | some j =>
        dsimp only [kstB, bval] at F6
        rcases hlen with ⟨rfl, hl1⟩ | ⟨kd, t, e, us', rfl, hl1, hl2, hl3⟩
        · dsimp only [endB, Option.or]
          walk_at "my steps"
          all_goals first | (exfalso; omega) | exact ⟨rfl, _, midS (by assumption) (by assumption) (by kst_all) (fun p hp => hp)⟩
        · dsimp only [endB, Option.or]
          walk_at "my steps"
          all_goals first | (exfalso; omega) | exact ⟨rfl, _, midS (by assumption) (by assumption) (by kst_all) (fun p hp => hp)⟩
    · clear F6 N6 F5 N5
      rintro s7 ⟨tb7, u7, h7, tk7, rfl, F7, N7⟩
      obtain ⟨b2, hb2⟩ : ∃ b2, ob.or (endB k1 rest) = b2 := ⟨_, rfl⟩
      rw [hb2] at F7
      have hRD : ∀ p ∈ R, p.1 ≠ D := by
        intro p hp
        rw [← hR] at hp
        rcases List.mem_append.mp hp with hp | hp
        · obtain ⟨x, hx, rfl⟩ := List.mem_map.mp hp
          exact Nat.ne_of_gt (hD x hx)
        · exact Nat.ne_of_lt (lD2 p hp)
      refine wpC_cutL (fun s' => ∃ (rs2 : List Rw) (n2 : Nat), rs2.map Rw.dat = rs.map Rw.dat ++ semi b2 (prevB rs) ∧ (∀ x ∈ rs2, D < x.a) ∧ MidS g1 L1 s [(Str.ofString "at", .int k1 t6), (Str.ofString "found", Value.ref D), (Str.ofString "text", .str text t1)] ((D, W.listOf (rs2.map Rw.ref).toArray n2) :: (rs2.map Rw.cell ++ news)) s') ?_ ?_
      · cases b2 with
        | none =>
          dsimp only [kstB, bval] at F7
          walk_at "my steps"
          subst hR hvs
          exact ⟨rfl, rs, n, by simp [semi], hD, midS (by assumption) (by assumption) (by kst_all) (fun p hp => hp)⟩
        | some j =>
          dsimp only [kstB, bval] at F7
          rcases List.eq_nil_or_concat rs with rfl | ⟨rs', r, rfl⟩
          · have hvs' : vs = [] := by rw [← hvs]; rfl
            subst hvs'
            walk_at "my steps"
            exact ⟨rfl, [], n, rfl, hD, midS (by assumption) (by assumption) (by kst_all) (fun p hp => by rw [← hR]; exact .tail _ hp)⟩
          · have hmem : r.cell ∈ R := by rw [← hR]; simp
            have hcell : r.cell = (r.a, tupO [.str r.kd r.u1, .str r.told r.u2, .int r.pos r.u3, r.v]) := rfl
            rw [hcell] at hmem
            have hjx : vs[rs'.length]? = some (Value.ref r.a) := by rw [← hvs]; simp [Rw.ref]
            have hvl : vs.length = rs'.length + 1 := by rw [← hvs]; simp
            have hsj : seqIndex? (-1) vs.length = some rs'.length := by rw [hvl]; simp [seqIndex?]; omega
            have hvz : vs.toArray.size ≤ sizeLine := by
              rw [List.size_toArray, hvl]
              have : (rs'.concat r).length = rs'.length + 1 := by simp
              unfold sizeLine
              omega
            have hpv2 : prevB (rs'.concat r) = endsB r.kd r.told := by rw [List.concat_eq_append]; exact prevB_snoc _ _
            obtain ⟨bb, hbb⟩ : ∃ bb, endsB r.kd r.told = bb := ⟨_, rfl⟩
            k_with "my call" =>
              rename News g1 _ _ _ => lN
              k_dflt (refine' Tel.use (ends_tel _ _ _ r.a r.kd r.told r.u1 r.u2 (.int r.pos r.u3) r.v) ?k1 ?k2 ?k3 (nw_front lN (.tail _ (.tail _ hmem))) ?k5 ?k6 ?k7 ?k8 ?_)
              case k1 => k_asm
              case k2 => k_asm
              case k3 => k_asm
              case k5 => k_asm
              case k6 => first | exact rfl | assumption
              case k7 => ktr_room
              case k8 => ktr_units
              intro r9 n9 h9 tk9 F9 N9 P9
              obtain ⟨rfl, rfl⟩ := P9
              replace N9 := nw_tail N9
              rw [hbb]
            k_with "my app" =>
              rename (_ < _ ∧ D < _ ∧ AllLt _ R) => lz
              rename (D < _ ∧ AllLt _ R) => ly
              rename Fr g1 _ _ _ => lF
              rename News g1 _ _ _ => lN
              refine append_K lF lN (.tail (Nat.ne_of_gt lz.2.1) (.tail (Nat.ne_of_gt ly.1) (.head hRD))) ?_ hvz
              intro h8 F8 N8
            repeat' (first
              | (with_reducible show wpAny _ _ (compareOp CmpOp.NotEq (Value.ref _) (Value.ref _)) _ _ _
                 rename News g1 _ _ _ => lN
                 refine ne_len (lN _ (.tail _ (.head _))).1 (lN _ (.head _)).1 (by rw [List.size_toArray, hvl]; simp) (by ktr_units) ?_)
              | (with_reducible show wpAny _ _ (subscriptTail _ _ (Value.ref _) (Value.int _ _)) _ _ _
                 rename News g1 _ _ _ => lN
                 refine kde_neg (vs := vs) ⟨_, (lN _ (.tail _ (.head _))).1, rfl, n, rfl⟩ (by decide) (by decide) hsj hjx ?_)
              | (k_unfold; (try dsimp only)) | walk1 | (dsimp only; walk1) | fail "no step")
            · rename bb = true => hbt
              rename News g1 _ _ _ => N8
              rename (_ < _ ∧ D < _ ∧ AllLt _ R) => lz
              refine ⟨rfl, rs'.concat r ++ [⟨_, Str.ofString "sign", Str.ofString ";", j, _, _, _, .none⟩], n + 1, ?_, ?_, midS F8 N8 (by kst_all) (led_grow hR hvs _ (.head _) (.tail _ (.tail _ (.head _))) (fun p hp => .tail _ (.tail _ (.tail _ hp))))⟩
              · rw [hpv2, hbb, hbt, List.map_append]; rfl
              · intro x hx
                rcases List.mem_append.mp hx with hx | hx
                · exact hD x hx
                · rcases List.mem_singleton.mp hx with rfl
                  exact lz.2.1
            · rename bb = false => hbf
              subst hR hvs
              exact ⟨rfl, rs'.concat r, n, by rw [hpv2, hbb, hbf]; simp [semi], hD, midS (by assumption) (by assumption) (by kst_all) (fun p hp => .tail _ hp)⟩
      · clear F7 N7
        rintro s8 ⟨rs2, n2, hd2, hD2, u8, h8, tk8, rfl, F8, N8⟩
        have hcnt : rs2.length ≤ rs.length + 1 := by
          have := congrArg List.length hd2
          rw [List.length_map, List.length_append, List.length_map] at this
          have : (semi b2 (prevB rs)).length ≤ 1 := by
            unfold semi
            split
            · split <;> simp
            · simp
          omega
        clear hRD N5
        clear hR hvs
        clear R vs
        obtain ⟨R, hR⟩ : ∃ R, rs2.map Rw.cell ++ news = R := ⟨_, rfl⟩
        obtain ⟨vs, hvs⟩ : ∃ vs, rs2.map Rw.ref = vs := ⟨_, rfl⟩
        rw [hR, hvs] at N8
        have hRD : ∀ p ∈ R, p.1 ≠ D := by
          intro p hp
          rw [← hR] at hp
          rcases List.mem_append.mp hp with hp | hp
          · obtain ⟨x, hx, rfl⟩ := List.mem_map.mp hp
            exact Nat.ne_of_gt (hD2 x hx)
          · exact Nat.ne_of_lt (lD2 p hp)
        have hvz : vs.toArray.size ≤ sizeLine := by
          rw [List.size_toArray, ← hvs, List.length_map]
          unfold sizeLine
          omega
        dsimp only [kstB] at F8
        rcases hlen with ⟨rfl, hl1⟩ | ⟨kd, t, e, us', rfl, hl1, hl2, hl3⟩
        · k_with "my app" =>
            rename (D < _ ∧ AllLt _ R) => lz
            rename Fr g1 _ _ _ => lF
            rename News g1 _ _ _ => lN
            refine append_K lF lN (.tail (Nat.ne_of_gt lz.1) (.head hRD)) ?_ hvz
            intro h8 F8 N8
          refine wpC_leaf ?_
          walk_at "my steps"
          · rename News h₀ L _ _ => kN
            rename (D < _ ∧ AllLt _ R) => lz
            refine hret _ _ _ _ (by k_asm) (fun p hp => kN p (led_grow (n := n2) hR hvs ⟨_, Str.ofString "end", Str.ofString "", k1, _, _, t6, .none⟩ (.head _) (.tail _ (.head _)) (fun p hp => .tail _ (.tail _ hp)) p hp)) ⟨D, n2 + 1, _, lD2, ?_, rfl, rfl, ?_⟩
            · intro x hx
              rcases List.mem_append.mp hx with hx | hx
              · exact hD2 x hx
              · rcases List.mem_singleton.mp hx with rfl
                exact lz.1
            · rw [← hE, List.map_append, hd2, ← hb2, List.append_assoc]
              rfl
          · exfalso; omega
        · k_with_none
          refine wpC_leaf ?_
          walk_at "my steps"
          · exfalso; omega
          · refine wpC_execs_cons (wpC_Assign_Tuple (wpC_Call_Name ?_))
            walk_at "my steps"
            refine wpC_callWith_K (K := K9 w.params) (by k_is) ?_
            walk_at "my steps"
            ktn_call 2 (word_telC prog w _ _ _ _ _ _ _ _ _ (hW kd t e (by simp)) hAt2 (okU_append ok) h2)
            intro r9 n9 h9 tk9 F9 N9 P9
            obtain ⟨a1, a2, w1, w2, w3, w4, w5, l1, l2, rfl, rfl⟩ := P9
            walk_at "my steps"
            have hDa : D < a1 := l1 _ (.head _)
            k_with "my app" =>
              rename Fr g1 _ _ _ => lF
              rename News g1 _ _ _ => lN
              refine append_K lF lN (.tail (Nat.ne_of_gt (Nat.lt_trans hDa l2)) (.tail (Nat.ne_of_gt hDa) (.head hRD))) ?_ hvz
              intro h8 F8 N8
            refine wpC_leaf ?_
            walk_at "my steps"
            have hee : endsB kd t = e := words_ends _ (hW kd t e (by simp))
            have hmv : AtU text (k1 + (t.length : Int)) us' := by
              have := AtU.move (us := [.word kd t e]) (vs := us') hAt2
              rw [show (rend [U.word kd t e]).length = t.length by simp [rend, U.rend, Str.length]] at this
              exact this
            refine wpC_execs_nil (mw_end ⟨k1 + (t.length : Int), w1, us', rs2 ++ [⟨a1, kd, t, k1, w2, w3, w4, w5⟩], n2 + 1⟩ (by assumption) (by assumption) (led_grow (n := n2) hR hvs ⟨a1, kd, t, k1, w2, w3, w4, w5⟩ (.tail _ (.head _)) (.tail _ (.tail _ (.head _))) (fun p hp => .tail _ (.tail _ (.tail _ hp)))) (by kst_all) ⟨hmv, (okU_append ok).2.2, fun kd' t' e' hm => hW kd' t' e' (by simp [hm]), ?_, ?_, ?_⟩ ?_)
            · intro x hx
              rcases List.mem_append.mp hx with hx | hx
              · exact hD2 x hx
              · rcases List.mem_singleton.mp hx with rfl
                exact hDa
            · simp only [List.length_append, List.length_cons, List.length_nil] at hC ⊢
              omega
            · dsimp only
              rw [prevB_snoc, hee, ← hE, List.map_append, hd2, ← hb2, List.append_assoc, List.append_assoc]
              congr 1
              show semi (ob.or none) (prevB rs) ++ _ = semi (none.or ob) (prevB rs) ++ _
              rw [Option.or_none]
              rfl
            · simp only [List.length_append, List.length_cons]
              omega
theorem fresh_lits : True := by
  w_top off
  k_with_none
  trivial
inductive LitsE : List Expr → List (Str × Str × Bool) → Prop
  | nil : LitsE [] []
  | cons {a b : Str} {e : Bool} {k1 k2 k3 k : Nat} {p1 p2 p3 p : Pos} {r : List Expr} {ws : List (Str × Str × Bool)} (h : LitsE r ws) :
      LitsE (.Tuple [.Constant (.str a) k1 p1, .Constant (.str b) k2 p2, .Constant (.bool e) k3 p3] k p :: r) ((a, b, e) :: ws)
inductive CellsW (l : List (Addr × Obj)) : List Value → List (Str × Str × Bool) → Prop
  | nil : CellsW l [] []
  | cons {a : Addr} {kd t : Str} {e : Bool} {u1 u2 : Tok} {vs : List Value} {ws : List (Str × Str × Bool)} (h : (a, tupO [.str kd u1, .str t u2, .bool e]) ∈ l) (r : CellsW l vs ws) : CellsW l (.ref a :: vs) ((kd, t, e) :: ws)
theorem CellsW.mono {l l' : List (Addr × Obj)} (hl : ∀ p ∈ l, p ∈ l') : ∀ {vs : List Value} {ws : List (Str × Str × Bool)}, CellsW l vs ws → CellsW l' vs ws
  | _, _, .nil => .nil
  | _, _, .cons h r => .cons (hl _ h) (r.mono hl)
theorem CellsW.len {l : List (Addr × Obj)} : ∀ {vs : List Value} {ws : List (Str × Str × Bool)}, CellsW l vs ws → vs.length = ws.length
  | _, _, .nil => rfl
  | _, _, .cons _ r => by rw [List.length_cons, List.length_cons, r.len]
theorem CellsW.at {l : List (Addr × Obj)} : ∀ {vs : List Value} {ws : List (Str × Str × Bool)} {i : Nat} {v : Value}, CellsW l vs ws → vs[i]? = some v → ∃ kd t e a u1 u2, (kd, t, e) ∈ ws ∧ v = .ref a ∧ (a, tupO [.str kd u1, .str t u2, .bool e]) ∈ l
  | _, _, 0, v, .cons (a := a) (kd := kd) (t := t) (e := e) (u1 := u1) (u2 := u2) h r, hv => by
    rw [List.getElem?_cons_zero] at hv
    exact ⟨kd, t, e, a, u1, u2, .head _, (Option.some.inj hv).symm, h⟩
  | _, _, i + 1, v, .cons h r, hv => by
    rw [List.getElem?_cons_succ] at hv
    obtain ⟨kd, t, e, a, u1, u2, h1, h2, h3⟩ := r.at hv
    exact ⟨kd, t, e, a, u1, u2, .tail _ h1, h2, h3⟩
  | _, _, _, _, .nil, hv => by simp at hv
theorem spliced_lits9 {M : Model} {A : Around} {E : Value → Shared → Prop} {env : Env} {pos : Pos} {h₀ : Heap} {L : Addr} {m : Str → Option Value} :
    ∀ {es : List Expr} {ws : List (Str × Str × Bool)}, LitsE es ws → ∀ {s : Shared} {news : List (Addr × Obj)} {Q : List Value → Shared → Prop}, Fr h₀ L s.heap m → News h₀ L s.heap news →
      (∀ vs cs h' tk, Fr h₀ L h' m → News h₀ L h' (cs ++ news) → CellsW cs vs ws → (∀ p ∈ cs, ∀ q ∈ news, q.1 < p.1) → Q vs { s with heap := h', toks := tk }) → wpAny M A (spliced (backTo pos (starEach es env))) Q E s
  | _, _, .nil, s, news, Q, F, N, h => by
    exact Calls.spliced_nil (h [] [] s.heap s.toks F N .nil (fun p hp => by cases hp))
  | _, _, .cons (a := a) (b := b) (e := e) (k1 := k1) (k2 := k2) (k3 := k3) (k := kk) (p1 := p1) (p2 := p2) (p3 := p3) (p := pp) (r := r) hr, s, news, Q, F, N, h => by
    show wpAny M A (spliced ((false, eval (.Tuple [.Constant (.str a) k1 p1, .Constant (.str b) k2 p2, .Constant (.bool e) k3 p3] kk pp) env) :: backTo pos (starEach r env))) Q E s
    refine Calls.spliced_cons (Tuple_ (k := kk) (pos := pp) ?_)
    refine Calls.spliced_cons (wpAny_Constant_str (k := k1) (pos := p1) (Calls.spliced_cons (wpAny_Constant_str (k := k2) (pos := p2) (Calls.spliced_cons (wpAny_Constant_bool (k := k3) (pos := p3) (Calls.spliced_nil ?_))))))
    refine newTuple_N (news := news) F N (fun h1 F1 N1 => ?_) (by show 3 ≤ sizeLine; decide)
    have hlt : ∀ q ∈ news, q.1 < s.heap.objs.size := fun q hq => Heap.lt_size (N q hq).1
    refine spliced_lits9 hr F1 N1 fun vs cs h' tk F' N' C hc => ?_
    refine h (.ref s.heap.objs.size :: vs) (cs ++ [(s.heap.objs.size, tupO [.str a s.toks, .str b (s.toks + 1), .bool e])]) h' tk F' (fun p hp => N' p ?_) (.cons (List.mem_append_right _ (.head _)) (C.mono fun p hp => List.mem_append_left _ hp)) ?_
    · rw [List.append_assoc] at hp
      exact hp
    · intro p hp q hq
      rcases List.mem_append.mp hp with hp | hp
      · exact hc p hp q (.tail _ hq)
      · rcases List.mem_singleton.mp hp with rfl
        exact hlt q hq
inductive LitsI : List Expr → List (Str × Nat) → Prop
  | nil : LitsI [] []
  | cons {a : Str} {j : Nat} {k1 k2 k : Nat} {p1 p2 p : Pos} {r : List Expr} {ws : List (Str × Nat)} (h : LitsI r ws) :
      LitsI (.Tuple [.Constant (.str a) k1 p1, .Constant (.int (j : Int)) k2 p2] k p :: r) ((a, j) :: ws)
inductive CellsI (l : List (Addr × Obj)) : List Value → List (Str × Nat) → Prop
  | nil : CellsI l [] []
  | cons {a : Addr} {x : Str} {j : Nat} {u1 u2 : Tok} {vs : List Value} {ws : List (Str × Nat)} (h : (a, tupO [.str x u1, .int (j : Int) u2]) ∈ l) (r : CellsI l vs ws) : CellsI l (.ref a :: vs) ((x, j) :: ws)
theorem CellsI.mono {l l' : List (Addr × Obj)} (hl : ∀ p ∈ l, p ∈ l') : ∀ {vs : List Value} {ws : List (Str × Nat)}, CellsI l vs ws → CellsI l' vs ws
  | _, _, .nil => .nil
  | _, _, .cons h r => .cons (hl _ h) (r.mono hl)
theorem CellsI.len {l : List (Addr × Obj)} : ∀ {vs : List Value} {ws : List (Str × Nat)}, CellsI l vs ws → vs.length = ws.length
  | _, _, .nil => rfl
  | _, _, .cons _ r => by rw [List.length_cons, List.length_cons, r.len]
theorem CellsI.at {l : List (Addr × Obj)} : ∀ {vs : List Value} {ws : List (Str × Nat)} {i : Nat} {v : Value}, CellsI l vs ws → vs[i]? = some v → ∃ x j a u1 u2, (x, j) ∈ ws ∧ v = .ref a ∧ (a, tupO [.str x u1, .int (j : Int) u2]) ∈ l
  | _, _, 0, v, .cons (a := a) (x := x) (j := j) (u1 := u1) (u2 := u2) h r, hv => by
    rw [List.getElem?_cons_zero] at hv
    exact ⟨x, j, a, u1, u2, .head _, (Option.some.inj hv).symm, h⟩
  | _, _, i + 1, v, .cons h r, hv => by
    rw [List.getElem?_cons_succ] at hv
    obtain ⟨x, j, a, u1, u2, h1, h2, h3⟩ := r.at hv
    exact ⟨x, j, a, u1, u2, .tail _ h1, h2, h3⟩
  | _, _, _, _, .nil, hv => by simp at hv
theorem spliced_litsI {M : Model} {A : Around} {E : Value → Shared → Prop} {env : Env} {pos : Pos} {h₀ : Heap} {L : Addr} {m : Str → Option Value} :
    ∀ {es : List Expr} {ws : List (Str × Nat)}, LitsI es ws → ∀ {s : Shared} {news : List (Addr × Obj)} {Q : List Value → Shared → Prop}, Fr h₀ L s.heap m → News h₀ L s.heap news →
      (∀ vs cs h' tk, Fr h₀ L h' m → News h₀ L h' (cs ++ news) → CellsI cs vs ws → (∀ p ∈ cs, ∀ q ∈ news, q.1 < p.1) → Q vs { s with heap := h', toks := tk }) → wpAny M A (spliced (backTo pos (starEach es env))) Q E s
  | _, _, .nil, s, news, Q, F, N, h => by
    exact Calls.spliced_nil (h [] [] s.heap s.toks F N .nil (fun p hp => by cases hp))
  | _, _, .cons (a := a) (j := j) (k1 := k1) (k2 := k2) (k := kk) (p1 := p1) (p2 := p2) (p := pp) (r := r) hr, s, news, Q, F, N, h => by
    show wpAny M A (spliced ((false, eval (.Tuple [.Constant (.str a) k1 p1, .Constant (.int (j : Int)) k2 p2] kk pp) env) :: backTo pos (starEach r env))) Q E s
    refine Calls.spliced_cons (Tuple_ (k := kk) (pos := pp) ?_)
    refine Calls.spliced_cons (wpAny_Constant_str (k := k1) (pos := p1) (Calls.spliced_cons (wpAny_Constant_int (k := k2) (pos := p2) (Calls.spliced_nil ?_))))
    refine newTuple_N (news := news) F N (fun h1 F1 N1 => ?_) (by show 2 ≤ sizeLine; decide)
    have hlt : ∀ q ∈ news, q.1 < s.heap.objs.size := fun q hq => Heap.lt_size (N q hq).1
    refine spliced_litsI hr F1 N1 fun vs cs h' tk F' N' C hc => ?_
    refine h (.ref s.heap.objs.size :: vs) (cs ++ [(s.heap.objs.size, tupO [.str a s.toks, .int (j : Int) (s.toks + 1)])]) h' tk F' (fun p hp => N' p ?_) (.cons (List.mem_append_right _ (.head _)) (C.mono fun p hp => List.mem_append_left _ hp)) ?_
    · rw [List.append_assoc] at hp
      exact hp
    · intro p hp q hq
      rcases List.mem_append.mp hp with hp | hp
      · exact hc p hp q (.tail _ hq)
      · rcases List.mem_singleton.mp hp with rfl
        exact hlt q hq
theorem fresh_take : True := by
  w_top off
  k_with_none
  trivial
/-- the law's source of figures: a list of two numbers -/
def srcO (x0 x1 : Int) (u0 u1 : Tok) (n : Nat) : Obj := W.listOf #[.int x0 u0, .int x1 u1] n
def SrcOk (x0 x1 : Int) : Prop := 0 ≤ x0 ∧ 0 ≤ x1 ∧ x1 < 2147483647
set_option maxHeartbeats 8000000 in
theorem take_tel (prog : Program) (w : World) (rest : List (Addr × Obj)) (S : Addr) (x0 x1 : Int) (u0 u1 t1 : Tok) (n : Nat) (top : Int) (hs : SrcOk x0 x1) (h1 : 1 ≤ top) (h2 : top < 1000) (hne : ∀ p ∈ rest, p.1 ≠ S) :
  Tel prog w 195 1 ((S, srcO x0 x1 u0 u1 n) :: rest) [.ref S, .int top t1] (fun r nw => ∃ (y0 y1 : Int) (v0 v1 u : Tok) (n' : Nat) (f : Int), SrcOk y0 y1 ∧ 0 ≤ f ∧ f < top ∧ nw = (S, srcO y0 y1 v0 v1 n') :: rest ∧ r = .int f u) := by
  obtain ⟨hs0, hs1, hs2⟩ := hs
  unfold Tel srcO
  intro p loose mean mg mb dp un gd cn cs a ccd cl outer A₀ base h₀ L m s Q E B F X N T hk hdp hun hret
  refine wpAny_call ?_
  k_dflt ktr_enter
  rename Fr _ _ _ (fun y => _) => FX
  obtain ⟨u, FX2⟩ := kst_ex [(Str.ofString "source", .ref S), (Str.ofString "top", .int top t1)] FX (by kst_all)
  clear FX
  dsimp only [kstB] at FX2
  k_with_none
  have e1 : [x0, x1].getD (Int.toNat 1) 0 = x1 := rfl
  have e0 : [x0, x1].getD (Int.toNat 0) 0 = x0 := rfl
  have e2 : ∀ z : Int, [x0, z].getD (Int.toNat 1) 0 = z := fun _ => rfl
  walk_at "my steps"
  · rename News h₀ L _ _ => kN
    rw [e0] at kN ⊢
    have hp : 0 < top := by omega
    refine hret _ _ _ _ (by k_asm) kN ⟨_, _, _, _, _, _, _, ⟨?_, hs1, hs2⟩, Int.fmod_nonneg_of_pos _ hp, Int.fmod_lt_of_pos _ hp, rfl, rfl⟩
    rw [Int.fdiv_eq_ediv_of_nonneg _ (by omega)]
    exact Int.ediv_nonneg hs0 (by omega)
  · rename News _ _ _ ((S, W.listOf #[_, Value.int (Int.fmod _ _) _] n) :: rest) => kN
    rw [e1] at kN ⊢
    rw [e2]
    have b1 : 0 ≤ (x1 * 39373 + 7).fmod 2147483647 := Int.fmod_nonneg_of_pos _ (by decide)
    have b2 : (x1 * 39373 + 7).fmod 2147483647 < 2147483647 := Int.fmod_lt_of_pos _ (by decide)
    generalize (x1 * 39373 + 7).fmod 2147483647 = y at *
    walk_at "my steps"
    have hp : 0 < top := by omega
    exact hret _ _ _ _ (by k_asm) kN ⟨_, _, _, _, _, _, _, ⟨hs0, b1, b2⟩, Int.fmod_nonneg_of_pos _ hp, Int.fmod_lt_of_pos _ hp, rfl, rfl⟩
theorem fresh_fold : True := by
  w_top off
  k_with_none
  trivial
/-- the rows told by a run of units, and the state behind them -/
def outF (k : Int) (b : Option Int) (prev : Bool) : List U → List (Str × Str × Int)
  | [] => []
  | .word kd t e :: us => semi b prev ++ (kd, t, k) :: outF (k + (t.length : Int)) none e us
  | g :: us => outF (k + (g.rend.length : Int)) (b.or (if g.brk then some k else none)) prev us
def stF (k : Int) (b : Option Int) (prev : Bool) : List U → Int × Option Int × Bool
  | [] => (k, b, prev)
  | .word kd t e :: us => stF (k + (t.length : Int)) none e us
  | g :: us => stF (k + (g.rend.length : Int)) (b.or (if g.brk then some k else none)) prev us
theorem rowsF_app {vs : List U} : ∀ {us : List U} {k : Int} {b : Option Int} {prev : Bool}, rowsF k b prev (us ++ vs) = outF k b prev us ++ rowsF (stF k b prev us).1 (stF k b prev us).2.1 (stF k b prev us).2.2 vs
  | [], _, _, _ => rfl
  | u :: us, k, b, prev => by
    cases u with
    | word kd t e =>
      show semi b prev ++ (kd, t, k) :: rowsF _ none e (us ++ vs) = (semi b prev ++ (kd, t, k) :: outF _ none e us) ++ _
      rw [rowsF_app (us := us), List.append_assoc]; rfl
    | _ => exact rowsF_app (us := us)
theorem outF_app {vs : List U} : ∀ {us : List U} {k : Int} {b : Option Int} {prev : Bool}, outF k b prev (us ++ vs) = outF k b prev us ++ outF (stF k b prev us).1 (stF k b prev us).2.1 (stF k b prev us).2.2 vs
  | [], _, _, _ => rfl
  | u :: us, k, b, prev => by
    cases u with
    | word kd t e =>
      show semi b prev ++ (kd, t, k) :: outF _ none e (us ++ vs) = (semi b prev ++ (kd, t, k) :: outF _ none e us) ++ _
      rw [outF_app (us := us), List.append_assoc]; rfl
    | _ => exact outF_app (us := us)
theorem stF_app {vs : List U} : ∀ {us : List U} {k : Int} {b : Option Int} {prev : Bool}, stF k b prev (us ++ vs) = stF (stF k b prev us).1 (stF k b prev us).2.1 (stF k b prev us).2.2 vs
  | [], _, _, _ => rfl
  | u :: us, k, b, prev => by
    cases u with
    | word kd t e => exact stF_app (us := us)
    | _ => exact stF_app (us := us)
theorem stF_place : ∀ {us : List U} {k : Int} {b : Option Int} {prev : Bool}, (stF k b prev us).1 = k + ((rend us).length : Int)
  | [], k, _, _ => by simp [stF, rend]
  | u :: us, k, b, prev => by
    have : (rend (u :: us)).length = u.rend.length + (rend us).length := by rw [rend_cons, List.length_append]
    rw [this]
    cases u with
    | word kd t e =>
      show (stF (k + (t.length : Int)) none e us).1 = _
      rw [stF_place (us := us), U.rend, show t.cps.toList.length = t.length from tl_len t]
      push_cast; omega
    | ws c => show (stF _ _ prev us).1 = _; rw [stF_place (us := us)]; push_cast; omega
    | line c => show (stF _ _ prev us).1 = _; rw [stF_place (us := us)]; push_cast; omega
    | block c => show (stF _ _ prev us).1 = _; rw [stF_place (us := us)]; push_cast; omega
/-- units that tell no row -/
theorem out_gap : ∀ {g : List U} {k : Int} {b : Option Int} {prev : Bool}, (∀ u ∈ g, u.gap = true) → outF k b prev g = []
  | [], _, _, _, _ => rfl
  | u :: us, k, b, prev, h => by
    have hu := h u (.head _)
    cases u with
    | word kd t e => simp [U.gap] at hu
    | _ => exact out_gap (g := us) fun x hx => h x (.tail _ hx)
theorem st_gap : ∀ {g : List U} {k : Int} {b : Option Int} {prev : Bool}, (∀ u ∈ g, u.gap = true) → stF k b prev g = (k + ((rend g).length : Int), b.or (kof k (fbrk g)), prev)
  | [], k, b, _, _ => by simp [stF, rend, fbrk, kof]
  | u :: us, k, b, prev, h => by
    have hu := h u (.head _)
    have e1 : stF k b prev (u :: us) = stF (k + (u.rend.length : Int)) (b.or (if u.brk then some k else none)) prev us := by
      cases u with
      | word kd t e => simp [U.gap] at hu
      | _ => rfl
    rw [e1, st_gap (g := us) fun x hx => h x (.tail _ hx)]
    have el : (rend (u :: us)).length = u.rend.length + (rend us).length := by rw [rend_cons, List.length_append]
    rw [el]
    have ef : fbrk (u :: us) = if u.brk then some 0 else (fbrk us).map (· + u.rend.length) := rfl
    rw [ef]
    refine Prod.ext (by push_cast; omega) (Prod.ext ?_ rfl)
    show (b.or _).or _ = b.or _
    cases hb : u.brk
    · simp only [Bool.false_eq_true, if_false, Option.or_none]
      unfold kof
      cases fbrk us with
      | none => rfl
      | some j =>
        simp only [Option.map_some]
        congr 2
        push_cast
        omega
    · simp only [if_true]
      cases b <;> simp [kof]
theorem okU_app {vs : List U} (h2 : okU vs) (hb : vs = [] ∨ ∃ d r, vs = .ws d :: r) : ∀ {us : List U}, okU us → okU (us ++ vs)
  | [], _ => h2
  | .ws c :: us, h => ⟨h.1, okU_app h2 hb h.2⟩
  | .line r :: us, h => by
    obtain ⟨h1, ⟨vs', rfl⟩, h3⟩ := h
    exact ⟨h1, ⟨vs' ++ vs, rfl⟩, okU_app h2 hb h3⟩
  | .block r :: us, h => ⟨h.1, okU_app h2 hb h.2⟩
  | .word k t e :: us, h => by
    obtain ⟨h1, h3, h4⟩ := h
    refine ⟨h1, ?_, okU_app h2 hb h4⟩
    rcases h3 with rfl | ⟨d, r, rfl⟩
    · exact hb
    · exact .inr ⟨d, r ++ vs, rfl⟩
/-- what has been laid: the units, what is due so far, the state -/
structure Laid9 (us : List U) (x : Str) : Prop where
  txt : tl x = rend us
  ok : okU us
  wd : ∀ kd t e, U.word kd t e ∈ us → (kd, t, e) ∈ WORDS
theorem Laid9.at {us : List U} {x : Str} (h : Laid9 us x) : AtU x 0 us := ⟨[], by rw [h.txt]; rfl, rfl⟩
theorem tl_append (x y : Str) : tl (x ++ y) = tl x ++ tl y := by
  show (x.cps ++ y.cps).toList = _
  simp [tl]
theorem Laid9.app {us vs : List U} {x y : Str} (h : Laid9 us x) (hy : tl y = rend vs) (ok : okU vs) (hb : vs = [] ∨ ∃ d r, vs = .ws d :: r) (wd : ∀ kd t e, U.word kd t e ∈ vs → (kd, t, e) ∈ WORDS) : Laid9 (us ++ vs) (x ++ y) := by
  refine ⟨by rw [tl_append, h.txt, hy, rend_append], okU_app ok hb h.ok, fun kd t e hm => ?_⟩
  rcases List.mem_append.mp hm with hm | hm
  · exact h.wd kd t e hm
  · exact wd kd t e hm
theorem fresh_steps : True := by
  w_top off
  k_with_none
  trivial
def stU (us : List U) : Int × Option Int × Bool := stF 0 none false us
def outU (us : List U) : List (Str × Str × Int) := outF 0 none false us
theorem stU_place (us : List U) : (stU us).1 = ((rend us).length : Int) := by
  unfold stU; rw [stF_place]; omega
def RowSt (us : List U) (due : List (Str × Str × Int)) : Prop := due = outU us ++ semi (stU us).2.1 (stU us).2.2 ∧ ((stU us).2.1 ≠ none ∨ (stU us).2.2 = false)
def InRow (us : List U) (due : List (Str × Str × Int)) (ending : Bool) : Prop :=
  due = outU us ++ semi (stU us).2.1 (stU us).2.2 ∧ ((ending = false ∧ ((stU us).2.1 ≠ none ∨ (stU us).2.2 = false)) ∨ ((stU us).2.1 = none ∧ (stU us).2.2 = ending))
def FinU (us : List U) (due : List (Str × Str × Int)) : Prop := due = outU us ++ semi ((stU us).2.1.or (some (stU us).1)) (stU us).2.2
theorem semi_false (b : Option Int) : semi b false = [] := by cases b <;> rfl
theorem st_start {g : List U} (hg : ∀ u ∈ g, u.gap = true) : RowSt g [] := by
  refine ⟨?_, .inr ?_⟩
  · unfold outU stU
    rw [out_gap hg, st_gap hg]
    exact (semi_false _).symm
  · unfold stU; rw [st_gap hg]
theorem RowSt.begin {us : List U} {due : List (Str × Str × Int)} (h : RowSt us due) : InRow us due false := ⟨h.1, .inl ⟨rfl, h.2⟩⟩
theorem InRow.word {us g : List U} {due : List (Str × Str × Int)} {ending e : Bool} {kd t : Str} (h : InRow us due ending) (hg : ∀ u ∈ g, u.gap = true) (hb : fbrk g = none) :
    InRow (us ++ (g ++ [.word kd t e])) (due ++ [(kd, t, ((rend us).length : Int) + ((rend g).length : Int))]) e := by
  have hk := stU_place us
  have e1 : stU (us ++ (g ++ [.word kd t e])) = ((stU us).1 + ((rend g).length : Int) + (t.length : Int), none, e) := by
    unfold stU; rw [stF_app, stF_app, st_gap hg, hb]; rfl
  have e2 : outU (us ++ (g ++ [.word kd t e])) = outU us ++ (semi (stU us).2.1 (stU us).2.2 ++ [(kd, t, (stU us).1 + ((rend g).length : Int))]) := by
    unfold outU; rw [outF_app, outF_app, out_gap hg, st_gap hg, hb]
    show _ ++ ([] ++ (semi (Option.or _ none) _ ++ [_])) = _
    rw [Option.or_none]; rfl
  refine ⟨?_, .inr ⟨by rw [e1], by rw [e1]⟩⟩
  rw [e1, e2, h.1, hk]
  show _ = _ ++ semi none e
  simp [semi]
theorem InRow.done {us g : List U} {due : List (Str × Str × Int)} {ending : Bool} {j : Nat} (h : InRow us due ending) (hg : ∀ u ∈ g, u.gap = true) (hb : fbrk g = some j) :
    RowSt (us ++ g) (due ++ (if ending then [(Str.ofString "sign", Str.ofString ";", ((rend us).length : Int) + (j : Int))] else [])) := by
  have hk := stU_place us
  have e1 : stU (us ++ g) = ((stU us).1 + ((rend g).length : Int), (stU us).2.1.or (some ((stU us).1 + (j : Int))), (stU us).2.2) := by
    unfold stU; rw [stF_app, st_gap hg, hb]; rfl
  have e2 : outU (us ++ g) = outU us := by
    unfold outU; rw [outF_app, out_gap hg, List.append_nil]
  refine ⟨?_, .inl ?_⟩
  · rw [e1, e2, h.1, List.append_assoc]
    congr 1
    rcases h.2 with ⟨rfl, h3⟩ | ⟨h3, rfl⟩
    · rcases h3 with h3 | h3
      · cases hb2 : (stU us).2.1 with
        | none => exact absurd hb2 h3
        | some i => simp
      · rw [h3]; simp [semi_false]
    · rw [h3, ← hk]
      simp [semi]
  · rw [e1]
    cases (stU us).2.1 <;> simp
theorem InRow.last {us : List U} {due : List (Str × Str × Int)} {ending : Bool} (h : InRow us due ending) :
    FinU us (due ++ (if ending then [(Str.ofString "sign", Str.ofString ";", ((rend us).length : Int) + 0)] else [])) := by
  have hk := stU_place us
  unfold FinU
  rw [h.1, List.append_assoc]
  congr 1
  rcases h.2 with ⟨rfl, h3⟩ | ⟨h3, rfl⟩
  · rcases h3 with h3 | h3
    · cases hb2 : (stU us).2.1 with
      | none => exact absurd hb2 h3
      | some i => simp
    · rw [h3]; simp [semi_false]
  · rw [h3, hk]
    simp [semi]
theorem RowSt.fin {us : List U} {due : List (Str × Str × Int)} (h : RowSt us due) : FinU us due := by
  unfold FinU
  rw [h.1]
  congr 1
  rcases h.2 with h3 | h3
  · cases hb2 : (stU us).2.1 with
    | none => exact absurd hb2 h3
    | some i => simp
  · rw [h3]; simp [semi_false]
theorem FinU.rows {us : List U} {due : List (Str × Str × Int)} (h : FinU us due) : due ++ [(Str.ofString "end", Str.ofString "", ((rend us).length : Int))] = rowsF 0 none false us := by
  have := rowsF_app (us := us) (vs := []) (k := 0) (b := none) (prev := false)
  rw [List.append_nil] at this
  rw [this, h, List.append_assoc, ← stU_place]
  rfl
/-! the pieces of the law's menus -/
def startsU : List (Str × List U) := [(Str.ofString "", []), (Str.ofString "\n", [.ws 10]), (Str.ofString "// a\n", [.line [32, 97], .ws 10])]
def sepsU : List (Str × List U) := [(Str.ofString " ", [.ws 32]), (Str.ofString "\t", [.ws 9]), (Str.ofString " /* a */ ", [.ws 32, .block [32, 97, 32], .ws 32])]
def endsU : List ((Str × Nat) × List U) := [((Str.ofString "\n", 0), [.ws 10]), ((Str.ofString " \n", 1), [.ws 32, .ws 10]), ((Str.ofString " // a )\n", 7), [.ws 32, .line [32, 97, 32, 41], .ws 10]), ((Str.ofString "\x0d\n", 1), [.ws 13, .ws 10]),
  ((Str.ofString " /* ; */\n", 8), [.ws 32, .block [32, 59, 32], .ws 10]), ((Str.ofString " /* a\n ) */", 1), [.ws 32, .block [32, 97, 10, 32, 41, 32]]), ((Str.ofString " /* a\n */ /* \n */", 1), [.ws 32, .block [32, 97, 10, 32], .ws 32, .block [32, 10, 32]]),
  ((Str.ofString "\n\n", 0), [.ws 10, .ws 10]), ((Str.ofString "\n // x\n\t", 0), [.ws 10, .ws 32, .line [32, 120], .ws 10, .ws 9])]
def okUb : List U → Bool
  | [] => true
  | .ws c :: us => blankL.contains c && okUb us
  | .line r :: us => !r.contains 10 && (match us with | .ws 10 :: _ => true | _ => false) && okUb us
  | .block r :: us => noEnd (r ++ [42]) && okUb us
  | .word .. :: _ => false
theorem okUb_ok : ∀ {us : List U}, okUb us = true → okU us
  | [], _ => trivial
  | .ws c :: us, h => by
    simp only [okUb, Bool.and_eq_true] at h
    exact ⟨h.1, okUb_ok h.2⟩
  | .line r :: us, h => by
    simp only [okUb, Bool.and_eq_true, Bool.not_eq_true'] at h
    obtain ⟨⟨h1, h2⟩, h3⟩ := h
    refine ⟨h1, ?_, okUb_ok h3⟩
    split at h2
    · exact ⟨_, rfl⟩
    · cases h2
  | .block r :: us, h => by
    simp only [okUb, Bool.and_eq_true] at h
    exact ⟨h.1, okUb_ok h.2⟩
  | .word .. :: _, h => by cases h
def gapB (us : List U) : Bool := us.all U.gap
def wsB : List U → Bool
  | .ws _ :: _ => true
  | _ => false
theorem wsB_ok {us : List U} (h : wsB us = true) : ∃ d r, us = .ws d :: r := by
  cases us with
  | nil => cases h
  | cons u us => cases u <;> first | exact ⟨_, _, rfl⟩ | cases h
theorem starts_ok : ∀ p ∈ startsU, tl p.1 = rend p.2 ∧ okUb p.2 = true ∧ gapB p.2 = true := by decide +kernel
theorem seps_ok : ∀ p ∈ sepsU, tl p.1 = rend p.2 ∧ okUb p.2 = true ∧ gapB p.2 = true ∧ wsB p.2 = true ∧ fbrk p.2 = none := by decide +kernel
theorem ends_ok : ∀ p ∈ endsU, tl p.1.1 = rend p.2 ∧ okUb p.2 = true ∧ gapB p.2 = true ∧ wsB p.2 = true ∧ fbrk p.2 = some p.1.2 := by decide +kernel
def wOkB (t : Str) : Bool := match tl t with | d :: _ => !blankL.contains d && d != 47 | [] => false
theorem words_wok : ∀ w ∈ WORDS, wOkB w.2.1 = true ∧ w.2.1.length ≤ 11 := by decide +kernel
theorem wOk_of {t : Str} (h : wOkB t = true) : wOk t := by
  unfold wOkB at h
  cases hd : tl t with
  | nil => rw [hd] at h; cases h
  | cons d r =>
    rw [hd] at h
    simp only [Bool.and_eq_true, Bool.not_eq_true', bne_iff_ne] at h
    exact ⟨d, r, hd, h.1, h.2⟩
theorem fresh_one : True := by
  w_top off
  k_with_none
  trivial
set_option maxHeartbeats 8000000 in
theorem one_tel (prog : Program) (w : World) (rest : List (Addr × Obj)) (S T : Addr) (x0 x1 : Int) (u0 u1 : Tok) (n nT : Nat) (vs : List Value) (hs : SrcOk x0 x1) (h1 : 1 ≤ vs.length) (h2 : vs.length < 1000) (hne : ∀ p ∈ rest, p.1 ≠ S) (hST : T ≠ S) :
  Tel prog w 202 2 ((S, srcO x0 x1 u0 u1 n) :: (T, W.listOf vs.toArray nT) :: rest) [.ref S, .ref T] (fun r nw => ∃ (y0 y1 : Int) (v0 v1 : Tok) (n' i : Nat), SrcOk y0 y1 ∧ vs[i]? = some r ∧ nw = (S, srcO y0 y1 v0 v1 n') :: (T, W.listOf vs.toArray nT) :: rest) := by
  unfold Tel
  intro p loose mean mg mb dp un gd cn cs a ccd cl outer A₀ base h₀ L m s Q E B F X N T9 hk hdp hun hret
  refine wpAny_call ?_
  k_dflt ktr_enter
  rename Fr _ _ _ (fun y => _) => FX
  obtain ⟨u, FX2⟩ := kst_ex [(Str.ofString "source", .ref S), (Str.ofString "things", .ref T)] FX (by kst_all)
  clear FX
  dsimp only [kstB] at FX2
  k_with_none
  have hne2 : ∀ p ∈ (T, W.listOf vs.toArray nT) :: rest, p.1 ≠ S := fun p hp => by
    rcases List.mem_cons.mp hp with rfl | hp
    · exact hST
    · exact hne p hp
  k_with "my call" =>
    (with_reducible show wpAny _ _ (PySem.call (Value.ref 195) _ _) _ _ _)
    ktn_call 0 (take_tel prog w ((T, W.listOf vs.toArray nT) :: rest) S x0 x1 u0 u1 _ n _ hs (by omega) (by omega) hne2)
    intro r9 n9 h9 tk9 F9 N9 P9
    obtain ⟨y0, y1, v0, v1, uf, n', f, hy, hf0, hf1, rfl, rfl⟩ := P9
    have hx : ∃ v, vs[f.toNat]? = some v := ⟨vs[f.toNat]'(by omega), List.getElem?_eq_getElem (by omega)⟩
    obtain ⟨vx, hx⟩ := hx
  repeat' (first
    | (with_reducible show wpAny _ _ (PySem.call (Value.builtin "len") [Value.ref _] _) _ _ _
       rename News _ _ _ _ => lN
       refine PyProof.Rows.len_list (items := vs.toArray) ⟨_, (lN _ (.tail _ (.head _))).1, rfl, nT, rfl⟩ (by rw [List.size_toArray]; omega) ?_
       rw [List.size_toArray])
    | (with_reducible show wpAny _ _ (subscriptTail _ _ (Value.ref _) (Value.int _ _)) _ _ _
       rename News _ _ _ _ => lN
       refine PyProof.Rows.item_list (items := vs.toArray) ⟨_, (lN _ (.tail _ (.head _))).1, rfl, nT, rfl⟩ hf0 (by omega) (by rw [List.getElem?_toArray]; exact hx) ?_)
    | (k_unfold; (try dsimp only)) | walk1 | (dsimp only; walk1) | fail "no step")
  exact hret _ _ _ _ (by k_asm) (by k_asm) ⟨y0, y1, v0, v1, n', f.toNat, hy, hx, rfl⟩
theorem fresh_lword : True := by
  w_top off
  k_with_none
  trivial
set_option maxHeartbeats 8000000 in
theorem lword_tel (prog : Program) (w : World) (rest : List (Addr × Obj)) (S : Addr) (x0 x1 : Int) (u0 u1 : Tok) (n : Nat) (hs : SrcOk x0 x1) (hne : ∀ p ∈ rest, p.1 ≠ S) :
  Tel prog w 209 3 ((S, srcO x0 x1 u0 u1 n) :: rest) [.ref S] (fun r nw => ∃ (y0 y1 : Int) (v0 v1 : Tok) (n' : Nat) (kd t : Str) (e : Bool) (a : Addr) (w1 w2 : Tok), SrcOk y0 y1 ∧ (kd, t, e) ∈ WORDS ∧ r = .ref a ∧ S < a ∧ (∀ p ∈ rest, p.1 < a) ∧ nw = (a, tupO [.str kd w1, .str t w2, .bool e]) :: (S, srcO y0 y1 v0 v1 n') :: rest) := by
  unfold Tel
  intro p loose mean mg mb dp un gd cn cs a ccd cl outer A₀ base h₀ L m s Q E B F X N T9 hk hdp hun hret
  refine wpAny_call ?_
  k_dflt ktr_enter
  rename Fr _ _ _ (fun y => _) => FX
  obtain ⟨u, FX2⟩ := kst_ex [(Str.ofString "source", .ref S)] FX (by kst_all)
  clear FX
  dsimp only [kstB] at FX2
  k_with_none
  repeat' (first
    | (with_reducible show wpAny _ _ (eval (Expr.List _ _) _) _ _ _
       refine List_ ?_
       rename Fr _ _ _ _ => lF
       rename News _ _ _ _ => lN
       with_reducible refine' spliced_lits9 (ws := WORDS) ?lits ?FF ?NN ?kk
       case lits => unfold WORDS; repeat (first | exact LitsE.nil | refine LitsE.cons ?_)
       case FF => exact lF
       case NN => exact lN
       intro vs cells h9 tk9 F9 N9 C hc
       refine newList_K F9 N9 ?_ (by rw [C.len]; decide)
       intro T h10 F10 N10 lT)
    | (k_unfold; (try dsimp only)) | walk1 | (dsimp only; walk1) | fail "no step")
  have hS : S < T := lT _ (List.mem_append_right _ (.head _))
  have hne3 : ∀ p ∈ cells ++ rest, p.1 ≠ S := fun p hp => by
    rcases List.mem_append.mp hp with hp | hp
    · exact Nat.ne_of_gt (hc p hp _ (.head _))
    · exact hne p hp
  have N11 : News _ _ _ ((S, srcO x0 x1 u0 u1 n) :: (T, W.listOf vs.toArray 0) :: (cells ++ rest)) := fun p hp => N10 p (by
    rcases List.mem_cons.mp hp with rfl | hp
    · exact .tail _ (List.mem_append_right _ (.head _))
    · rcases List.mem_cons.mp hp with rfl | hp
      · exact .head _
      · rcases List.mem_append.mp hp with hp | hp
        · exact .tail _ (List.mem_append_left _ hp)
        · exact .tail _ (List.mem_append_right _ (.tail _ hp)))
  k_dflt (refine' Tel.use (one_tel prog w (cells ++ rest) S T x0 x1 u0 u1 n 0 vs hs (by rw [C.len]; decide) (by rw [C.len]; decide) hne3 (Nat.ne_of_gt hS)) ?k1 ?k2 ?k3 N11 ?k5 ?k6 ?k7 ?k8 ?_)
  case k1 => k_asm
  case k2 => k_asm
  case k3 => k_asm
  case k5 => k_asm
  case k6 => first | exact rfl | assumption
  case k7 => ktr_room
  case k8 => ktr_units
  intro r9 n9 h12 tk12 F12 N12 P12
  obtain ⟨y0, y1, v0, v1, n', i, hy, hi, rfl⟩ := P12
  obtain ⟨kd, t, e, a9, w1, w2, hm, rfl, ha⟩ := C.at hi
  walk_at "my steps"
  rename News h₀ L _ _ => kN
  refine hret _ _ _ _ (by k_asm) (fun p hp => kN p ?_) ⟨y0, y1, v0, v1, n', kd, t, e, a9, w1, w2, hy, hm, rfl, hc _ ha _ (.head _), fun p hp => hc _ ha _ (.tail _ hp), rfl⟩
  rcases List.mem_cons.mp hp with rfl | hp
  · exact .tail _ (.tail _ (List.mem_append_left _ ha))
  · rcases List.mem_cons.mp hp with rfl | hp
    · exact .head _
    · exact .tail _ (.tail _ (List.mem_append_right _ hp))
theorem fresh_lend : True := by
  w_top off
  k_with_none
  trivial
def ENDSW : List (Str × Nat) := [(Str.ofString "\n", 0), (Str.ofString " \n", 1), (Str.ofString " // a )\n", 7), (Str.ofString "\x0d\n", 1), (Str.ofString " /* ; */\n", 8), (Str.ofString " /* a\n ) */", 1), (Str.ofString " /* a\n */ /* \n */", 1), (Str.ofString "\n\n", 0), (Str.ofString "\n // x\n\t", 0)]
theorem endsw : ∀ w ∈ ENDSW, ∃ us, (w, us) ∈ endsU := by
  intro w hw
  have : ENDSW = endsU.map (·.1) := by rfl
  rw [this] at hw
  obtain ⟨p, hp, rfl⟩ := List.mem_map.mp hw
  exact ⟨p.2, hp⟩
set_option maxHeartbeats 8000000 in
theorem lend_tel (prog : Program) (w : World) (rest : List (Addr × Obj)) (S : Addr) (x0 x1 : Int) (u0 u1 : Tok) (n : Nat) (hs : SrcOk x0 x1) (hne : ∀ p ∈ rest, p.1 ≠ S) :
  Tel prog w 216 3 ((S, srcO x0 x1 u0 u1 n) :: rest) [.ref S] (fun r nw => ∃ (y0 y1 : Int) (v0 v1 : Tok) (n' : Nat) (x : Str) (j : Nat) (a : Addr) (w1 w2 : Tok), SrcOk y0 y1 ∧ (x, j) ∈ ENDSW ∧ r = .ref a ∧ S < a ∧ (∀ p ∈ rest, p.1 < a) ∧ nw = (a, tupO [.str x w1, .int (j : Int) w2]) :: (S, srcO y0 y1 v0 v1 n') :: rest) := by
  unfold Tel
  intro p loose mean mg mb dp un gd cn cs a ccd cl outer A₀ base h₀ L m s Q E B F X N T9 hk hdp hun hret
  refine wpAny_call ?_
  k_dflt ktr_enter
  rename Fr _ _ _ (fun y => _) => FX
  obtain ⟨u, FX2⟩ := kst_ex [(Str.ofString "source", .ref S)] FX (by kst_all)
  clear FX
  dsimp only [kstB] at FX2
  k_with_none
  repeat' (first
    | (with_reducible show wpAny _ _ (eval (Expr.List _ _) _) _ _ _
       refine List_ ?_
       rename Fr _ _ _ _ => lF
       rename News _ _ _ _ => lN
       with_reducible refine' spliced_litsI (ws := ENDSW) ?lits ?FF ?NN ?kk
       case lits => unfold ENDSW; repeat (first | exact LitsI.nil | refine LitsI.cons ?_)
       case FF => exact lF
       case NN => exact lN
       intro vs cells h9 tk9 F9 N9 C hc
       refine newList_K F9 N9 ?_ (by rw [C.len]; decide)
       intro T h10 F10 N10 lT)
    | (k_unfold; (try dsimp only)) | walk1 | (dsimp only; walk1) | fail "no step")
  have hS : S < T := lT _ (List.mem_append_right _ (.head _))
  have hne3 : ∀ p ∈ cells ++ rest, p.1 ≠ S := fun p hp => by
    rcases List.mem_append.mp hp with hp | hp
    · exact Nat.ne_of_gt (hc p hp _ (.head _))
    · exact hne p hp
  have N11 : News _ _ _ ((S, srcO x0 x1 u0 u1 n) :: (T, W.listOf vs.toArray 0) :: (cells ++ rest)) := fun p hp => N10 p (by
    rcases List.mem_cons.mp hp with rfl | hp
    · exact .tail _ (List.mem_append_right _ (.head _))
    · rcases List.mem_cons.mp hp with rfl | hp
      · exact .head _
      · rcases List.mem_append.mp hp with hp | hp
        · exact .tail _ (List.mem_append_left _ hp)
        · exact .tail _ (List.mem_append_right _ (.tail _ hp)))
  k_dflt (refine' Tel.use (one_tel prog w (cells ++ rest) S T x0 x1 u0 u1 n 0 vs hs (by rw [C.len]; decide) (by rw [C.len]; decide) hne3 (Nat.ne_of_gt hS)) ?k1 ?k2 ?k3 N11 ?k5 ?k6 ?k7 ?k8 ?_)
  case k1 => k_asm
  case k2 => k_asm
  case k3 => k_asm
  case k5 => k_asm
  case k6 => first | exact rfl | assumption
  case k7 => ktr_room
  case k8 => ktr_units
  intro r9 n9 h12 tk12 F12 N12 P12
  obtain ⟨y0, y1, v0, v1, n', i, hy, hi, rfl⟩ := P12
  obtain ⟨x, j, a9, w1, w2, hm, rfl, ha⟩ := C.at hi
  walk_at "my steps"
  rename News h₀ L _ _ => kN
  refine hret _ _ _ _ (by k_asm) (fun p hp => kN p ?_) ⟨y0, y1, v0, v1, n', x, j, a9, w1, w2, hy, hm, rfl, hc _ ha _ (.head _), fun p hp => hc _ ha _ (.tail _ hp), rfl⟩
  rcases List.mem_cons.mp hp with rfl | hp
  · exact .tail _ (.tail _ (List.mem_append_left _ ha))
  · rcases List.mem_cons.mp hp with rfl | hp
    · exact .head _
    · exact .tail _ (.tail _ (List.mem_append_right _ hp))
theorem fresh_lrowsp : True := by
  w_top off
  k_with_none
  trivial
/-- a row of the list that is due -/
structure R3 where
  a : Addr
  kd : Str
  told : Str
  pos : Int
  u1 : Tok
  u2 : Tok
  u3 : Tok
def R3.ref (r : R3) : Value := .ref r.a
def R3.cell (r : R3) : Addr × Obj := (r.a, tupO [.str r.kd r.u1, .str r.told r.u2, .int r.pos r.u3])
def R3.dat (r : R3) : Str × Str × Int := (r.kd, r.told, r.pos)
theorem led_grow3 {R : List (Addr × Obj)} {vs : List Value} {rs : List R3} {D : Addr} {n : Nat} {l pre rest : List (Addr × Obj)} (hR : rs.map R3.cell ++ rest = R) (hvs : rs.map R3.ref = vs) (x : R3) (h1 : x.cell ∈ l) (h2 : (D, W.listOf (vs.toArray.push x.ref) (n + 1)) ∈ l) (hp : ∀ p ∈ pre, p ∈ l) (h3 : ∀ p ∈ R, p ∈ l) :
    ∀ p ∈ (D, W.listOf ((rs ++ [x]).map R3.ref).toArray (n + 1)) :: (pre ++ ((rs ++ [x]).map R3.cell ++ rest)), p ∈ l := by
  intro p hp'
  rcases List.mem_cons.mp hp' with rfl | hp'
  · rw [List.map_append, hvs]
    simpa using h2
  · rcases List.mem_append.mp hp' with hp' | hp'
    · exact hp p hp'
    · rw [List.map_append, List.append_assoc] at hp'
      rcases List.mem_append.mp hp' with hp' | hp'
      · exact h3 p (by rw [← hR]; exact List.mem_append_left _ hp')
      · rcases List.mem_append.mp hp' with hp' | hp'
        · rcases List.mem_singleton.mp hp' with rfl
          exact h1
        · exact h3 p (by rw [← hR]; exact List.mem_append_right _ hp')
theorem nw_perm {h₀ h : Heap} {L : Addr} {l l' : List (Addr × Obj)} (N : News h₀ L h l) (hs : ∀ p ∈ l', p ∈ l) : News h₀ L h l' := fun p hp => N p (hs p hp)
section
variable {prog : Program} {w : World} {A : Around} {s : Shared} {env : Env} {h₀ : Heap} {σ : Type}
def FsEnd (h₀ : Heap) (L : Addr) (s : Shared) (I : Addr) (o : Obj) (Led : σ → List (Addr × Obj)) (ps : σ → List (Str × Value)) (P : σ → Prop) (s₂ : Shared) : Prop :=
  ∃ (c : σ) (h' : Heap) (tk : Nat) (m' : Str → Option Value), s₂ = { s with heap := h', toks := tk } ∧ Fr h₀ L h' m' ∧ News h₀ L h' ((I, o) :: Led c) ∧ (∀ p ∈ Led c, p.1 ≠ I) ∧ (∀ p ∈ ps c, m' p.1 = some p.2) ∧ P c
def FsPost (h₀ : Heap) (L : Addr) (s : Shared) (I : Addr) (o : Obj) (Led : σ → List (Addr × Obj)) (ps : σ → List (Str × Value)) (P : σ → Prop) (Q : Flow → Shared → Prop) (f : Flow) (s₂ : Shared) : Prop :=
  match f with
  | .ret v => Q (.ret v) s₂
  | .brk => Q .next s₂
  | _ => FsEnd h₀ L s I o Led ps P s₂
theorem fs_end {L : Addr} {I : Addr} {o : Obj} {Led : σ → List (Addr × Obj)} {ps : σ → List (Str × Value)} {P : σ → Prop} {h' : Heap} {tk : Nat} {m' : Str → Option Value} {nx : List (Addr × Obj)} (c : σ) (F : Fr h₀ L h' m') (N : News h₀ L h' nx) (hn : ∀ p ∈ (I, o) :: Led c, p ∈ nx) (hne : ∀ p ∈ Led c, p.1 ≠ I)
    (hk : ∀ p ∈ ps c, m' p.1 = some p.2) (hp : P c) : FsEnd h₀ L s I o Led ps P { s with heap := h', toks := tk } := ⟨c, h', tk, m', rfl, F, fun p hp => N p (hn p hp), hne, hk, hp⟩
def FsStart (h₀ : Heap) (L : Addr) (s : Shared) (a₀ : Int) (Bd : Nat → Prop) (Led : σ → List (Addr × Obj)) (ps : σ → List (Str × Value)) (P : Nat → Nat → σ → Prop) (v : Value) (s₁ : Shared) : Prop :=
  ∃ (n : Nat) (b₀ : Int) (c : σ) (r : Addr) (t₀ u₀ v₀ : Tok) (h₁ : Heap) (tk₁ : Nat) (m : Str → Option Value), v = .ref r ∧ s₁ = { s with heap := h₁, toks := tk₁ } ∧ IsRange h₁ r a₀ b₀ 1 t₀ u₀ v₀ ∧ Builtin.Range.rangeSize a₀ b₀ 1 = (n : Int) ∧ Builtin.Range.small a₀ b₀ 1 = true ∧ Bd n ∧
    Fr h₀ L h₁ m ∧ News h₀ L h₁ (Led c) ∧ (∀ p ∈ ps c, m p.1 = some p.2) ∧ P n 0 c
theorem fs_start {L : Addr} {a₀ b₀ : Int} {Bd : Nat → Prop} {Led : σ → List (Addr × Obj)} {ps : σ → List (Str × Value)} {P : Nat → Nat → σ → Prop} {h' : Heap} {tk : Nat} {m' : Str → Option Value} {nx : List (Addr × Obj)} {r : Addr} {t₀ u₀ v₀ : Tok} (n : Nat) (c : σ) (hr : IsRange h' r a₀ b₀ 1 t₀ u₀ v₀) (F : Fr h₀ L h' m') (N : News h₀ L h' nx) (hn : ∀ p ∈ Led c, p ∈ nx)
    (hk : ∀ p ∈ ps c, m' p.1 = some p.2) (h1 : Builtin.Range.rangeSize a₀ b₀ 1 = (n : Int)) (h2 : Builtin.Range.small a₀ b₀ 1 = true) (hb : Bd n) (hp : P n 0 c) : FsStart h₀ L s a₀ Bd Led ps P (.ref r) { s with heap := h', toks := tk } :=
  ⟨n, b₀, c, r, t₀, u₀, v₀, h', tk, m', rfl, rfl, hr, h1, h2, hb, F, fun p hp => N p (hn p hp), hk, hp⟩
theorem wpC_ForRangeS {x : Str} {px pos : Pos} {iter : Expr} {body : List Stmt} {Q : Flow → Shared → Prop} (a₀ : Int) (Bd : Nat → Prop) (Led : σ → List (Addr × Obj)) (ps : σ → List (Str × Value)) (P : Nat → Nat → σ → Prop)
    (hh : A.handled = none) (hx : env.kindOf x = some .local) (hp : (env.scope.kind == .class || (env.scope.kind == .module && env.locals != env.globals)) = false)
    (ht : wpAny (model prog w) A (eval iter env) (FsStart h₀ env.locals s a₀ Bd Led ps P) nev s)
    (turn : ∀ n I i (c : σ) (u : Str → Option Value) h tk t, Bd n → i < n → P n i c → (∀ p ∈ Led c, p.1 ≠ I) → Fr h₀ env.locals h (kstB u ((x, .int (a₀ + (i : Int)) t) :: ps c)) → News h₀ env.locals h ((I, krsIt (a₀ + ((i + 1 : Nat) : Int)) ((n : Int) - ((i + 1 : Nat) : Int)) 1) :: Led c) →
      wpC (model prog w) A (execs body env) (FsPost h₀ env.locals s I (krsIt (a₀ + ((i + 1 : Nat) : Int)) ((n : Int) - ((i + 1 : Nat) : Int)) 1) Led ps (P n (i + 1)) Q) { s with heap := h, toks := tk })
    (done : ∀ n (c : σ) (u : Str → Option Value) h tk, Bd n → P n n c → Fr h₀ env.locals h (kstB u (ps c)) → News h₀ env.locals h (Led c) → Q .next { s with heap := h, toks := tk })
    (hs : ∀ x, foldedSetIterable iter env x = pure x := by intro _; rfl) :
    wpC (model prog w) A (exec (.For (.Name x px) iter body [] pos) env) Q s := by
  refine wpC_For (wpAny_mono ht (fun v s₁ hv => ?_) fun _ _ x => x) hs
  obtain ⟨n, b₀, c₀, r, t₀, u₀, v₀, h₁, tk₁, m, rfl, rfl, hr, hn, hsmall, hb, F, N, hk0, hj⟩ := hv
  refine wpAny_pyIter_range hr hsmall ?_
  have hA : (A.mark none).handled = none := by first | exact hh | rfl
  have hlt : ∀ p ∈ Led c₀, p.1 < h₁.objs.size := fun p hp => Heap.lt_size (N p hp).1
  refine codeC_forLoop (fun k s' => ∃ (i : Nat) (h' : Heap) (tk : Nat) (m' : Str → Option Value) (c : σ), s' = { s with heap := h', toks := tk } ∧ i ≤ n ∧ k = n - i ∧ Fr h₀ env.locals h' m' ∧ News h₀ env.locals h' ((h₁.objs.size, krsIt (a₀ + (i : Int)) ((n : Int) - (i : Int)) 1) :: Led c) ∧ (∀ p ∈ Led c, p.1 ≠ h₁.objs.size) ∧ (∀ p ∈ ps c, m' p.1 = some p.2) ∧ P n i c) ?_ n
    ⟨0, _, _, m, c₀, rfl, Nat.zero_le _, rfl, F.push _, by
      have := N.push F (krsIt a₀ (n : Int) 1)
      rw [hn]
      simpa [krsIt] using this, fun p hp => Nat.ne_of_lt (hlt p hp), hk0, hj⟩
  rintro k s' ⟨i, h', tk, m', c, rfl, hi, rfl, F', N', hne, hk', hJ⟩
  have hit : IsRangeIter h' h₁.objs.size (a₀ + (i : Int)) ((n : Int) - (i : Int)) 1 := (N' _ (.head _)).1
  by_cases hlt' : i < n
  · refine wpAny_pyNext_range_item hit (by omega) fun h2 hit2 hs2 => ?_
    have e1 : a₀ + (i : Int) + 1 = a₀ + ((i + 1 : Nat) : Int) := by push_cast; omega
    have e2 : (n : Int) - (i : Int) - 1 = (n : Int) - ((i + 1 : Nat) : Int) := by push_cast; omega
    rw [e1, e2] at hit2
    obtain ⟨F2, N2⟩ := fr_upd F' N' hne hs2 hit2
    refine wpAny_assign_Name (wpAny_storeName_local hx F2.ns (fun h3 hn3 hs3 => ?_) hp)
    have F3 := F2.set hn3 hs3
    have N3 := N2.set hs3
    rw [kst_self hk'] at F3
    refine wpC_mono (turn n _ i c m' h3 _ _ hb hlt' hJ hne F3 N3) fun f s₃ h₃ => ?_
    have fin : FsEnd h₀ env.locals s h₁.objs.size (krsIt (a₀ + ((i + 1 : Nat) : Int)) ((n : Int) - ((i + 1 : Nat) : Int)) 1) Led ps (P n (i + 1)) s₃ → ∃ m, m < n - i ∧ ∃ (i : Nat) (h' : Heap) (tk : Nat) (m' : Str → Option Value) (c : σ), s₃ = { s with heap := h', toks := tk } ∧ i ≤ n ∧ m = n - i ∧ Fr h₀ env.locals h' m' ∧ News h₀ env.locals h' ((h₁.objs.size, krsIt (a₀ + (i : Int)) ((n : Int) - (i : Int)) 1) :: Led c) ∧ (∀ p ∈ Led c, p.1 ≠ h₁.objs.size) ∧ (∀ p ∈ ps c, m' p.1 = some p.2) ∧ P n i c := by
      rintro ⟨c, h', tk, m', rfl, F', N', hn', hk', hJ'⟩
      exact ⟨n - (i + 1), by omega, i + 1, h', tk, m', c, rfl, hlt', rfl, F', N', hn', hk', hJ'⟩
    cases f with
    | ret v => exact h₃
    | brk => exact h₃
    | next => exact fin h₃
    | cont => exact fin h₃
  · have hin : i = n := by omega
    subst hin
    refine wpAny_pyNext_range_end hA hit (by omega) fun h2 he => ?_
    have hL : env.locals ≠ h₁.objs.size := fun e => (N' _ (.head _)).2.1 e.symm
    have old : ∀ b o, h₀.get? b = some o → b ≠ h₁.objs.size := fun b o e q => by
      have := (N' _ (.head _)).2.2
      rw [q] at e; rw [e] at this; cases this
    have F3 : Fr h₀ env.locals h2 m' := ⟨F'.ns.at' fun o e => he _ o hL e, fun b o e => he b o (old b o e) (F'.keep b o e), F'.above⟩
    rw [kst_self hk'] at F3
    exact done i c m' h2 _ hb hJ F3 fun p hp => ⟨he _ _ (hne p hp) (N' p (.tail _ hp)).1, (N' p (.tail _ hp)).2⟩
end
structure LS where
  x : Str
  tx : Tok
  us : List U
  rs : List R3
  nD : Nat
  x0 : Int
  x1 : Int
  u0 : Tok
  u1 : Tok
  n : Nat
  e : Bool
def LS.src (c : LS) : Obj := srcO c.x0 c.x1 c.u0 c.u1 c.n
def LS.lst (c : LS) : Obj := W.listOf (c.rs.map R3.ref).toArray c.nD
structure LBase (D : Addr) (bx bu br : Nat) (c : LS) : Prop where
  laid : Laid9 c.us c.x
  src : SrcOk c.x0 c.x1
  above : ∀ r ∈ c.rs, D < r.a
  xl : c.x.length ≤ bx
  ul : c.us.length ≤ bu
  rl : c.rs.length ≤ br
def STARTSW : List Str := [Str.ofString "", Str.ofString "\n", Str.ofString "// a\n"]
def SEPSW : List Str := [Str.ofString " ", Str.ofString "\t", Str.ofString " /* a */ "]
theorem gapB_gap {us : List U} (h : gapB us = true) : ∀ u ∈ us, u.gap = true := fun u hu => by
  unfold gapB at h
  exact List.all_eq_true.mp h u hu
theorem gap_nowd {us : List U} (h : ∀ u ∈ us, u.gap = true) : ∀ kd t e, U.word kd t e ∈ us → (kd, t, e) ∈ WORDS := fun kd t e hm => by
  have := h _ hm
  simp [U.gap] at this
theorem lens_ok : (∀ p ∈ startsU, p.1.length ≤ 5 ∧ p.2.length ≤ 2) ∧ (∀ p ∈ sepsU, p.1.length ≤ 9 ∧ p.2.length ≤ 3) ∧ (∀ p ∈ endsU, p.1.1.length ≤ 18 ∧ p.2.length ≤ 5) := by decide +kernel
theorem starts9 {x : Str} (hx : x ∈ STARTSW) : ∃ us, Laid9 us x ∧ RowSt us [] ∧ x.length ≤ 5 ∧ us.length ≤ 2 := by
  have : STARTSW = startsU.map (·.1) := by rfl
  rw [this] at hx
  obtain ⟨p, hp, rfl⟩ := List.mem_map.mp hx
  obtain ⟨h1, h2, h3⟩ := starts_ok p hp
  obtain ⟨h4, h5⟩ := lens_ok.1 p hp
  exact ⟨p.2, ⟨h1, okUb_ok h2, gap_nowd (gapB_gap h3)⟩, st_start (gapB_gap h3), h4, h5⟩
theorem okU_gapw {vs : List U} (h2 : okU vs) : ∀ {us : List U}, okUb us = true → okU (us ++ vs)
  | [], _ => h2
  | .ws c :: us, h => by
    simp only [okUb, Bool.and_eq_true] at h
    exact ⟨h.1, okU_gapw h2 h.2⟩
  | .line r :: us, h => by
    simp only [okUb, Bool.and_eq_true, Bool.not_eq_true'] at h
    obtain ⟨⟨h1, h3⟩, h4⟩ := h
    refine ⟨h1, ?_, okU_gapw h2 h4⟩
    split at h3
    · exact ⟨_, rfl⟩
    · cases h3
  | .block r :: us, h => by
    simp only [okUb, Bool.and_eq_true] at h
    exact ⟨h.1, okU_gapw h2 h.2⟩
  | .word .. :: _, h => by cases h
/-- a blank and a word are laid -/
theorem laidWord {us : List U} {x sep kd t : Str} {e e0 : Bool} {due : List (Str × Str × Int)} (L9 : Laid9 us x) (hi : InRow us due e0) (hs : sep ∈ SEPSW) (hw : (kd, t, e) ∈ WORDS) :
    ∃ us', Laid9 us' ((x ++ sep) ++ t) ∧ InRow us' (due ++ [(kd, t, ((x ++ sep).length : Int))]) e ∧ us'.length ≤ us.length + 4 ∧ (x ++ sep).length ≤ x.length + 9 ∧ ((x ++ sep) ++ t).length ≤ x.length + 20 := by
  have : SEPSW = sepsU.map (·.1) := by rfl
  rw [this] at hs
  obtain ⟨p, hp, rfl⟩ := List.mem_map.mp hs
  obtain ⟨h1, h2, h3, h4, h5⟩ := seps_ok p hp
  obtain ⟨h6, h7⟩ := lens_ok.2.1 p hp
  obtain ⟨h8, h9⟩ := words_wok _ hw
  dsimp only at h8 h9
  have la : (x ++ p.1).length = x.length + p.1.length := by rw [← tl_len, tl_append, List.length_append, tl_len, tl_len]
  have lb : ((x ++ p.1) ++ t).length = x.length + p.1.length + t.length := by rw [← tl_len, tl_append, List.length_append, tl_len, tl_len, la]
  have hl1 : (rend us).length = x.length := by rw [← L9.txt, tl_len]
  have hl2 : (rend p.2).length = p.1.length := by rw [← h1, tl_len]
  have L10 : Laid9 (us ++ (p.2 ++ [.word kd t e])) ((x ++ p.1) ++ t) := by
    have e1 : (x ++ p.1) ++ t = x ++ (p.1 ++ t) := by
      show (⟨(x.cps ++ p.1.cps) ++ t.cps⟩ : Str) = ⟨x.cps ++ (p.1.cps ++ t.cps)⟩
      rw [Array.append_assoc]
    rw [e1]
    refine L9.app (by rw [tl_append, h1, rend_append]; simp [rend, U.rend]) ?_ ?_ ?_
    · exact okU_gapw (vs := [.word kd t e]) ⟨wOk_of h8, .inl rfl, trivial⟩ h2
    · obtain ⟨d, r, e9⟩ := wsB_ok h4
      exact .inr ⟨d, r ++ [.word kd t e], by rw [e9]; rfl⟩
    · intro kd' t' e' hm
      rcases List.mem_append.mp hm with hm | hm
      · exact gap_nowd (gapB_gap h3) kd' t' e' hm
      · simp only [List.mem_singleton, U.word.injEq] at hm
        obtain ⟨rfl, rfl, rfl⟩ := hm
        exact hw
  refine ⟨_, L10, ?_, ?_, ?_, ?_⟩
  · have := hi.word (kd := kd) (t := t) (e := e) (gapB_gap h3) h5
    rw [hl1, hl2] at this
    rw [la]
    exact_mod_cast this
  · simp only [List.length_append, List.length_cons, List.length_nil]; omega
  · omega
  · omega
/-- an end is laid -/
theorem laidEnd {us : List U} {x y : Str} {j : Nat} {e0 : Bool} {due : List (Str × Str × Int)} (L9 : Laid9 us x) (hi : InRow us due e0) (hs : (y, j) ∈ ENDSW) :
    ∃ us', Laid9 us' (x ++ y) ∧ RowSt us' (due ++ (if e0 then [(Str.ofString "sign", Str.ofString ";", ((x.length : Int) + (j : Int)))] else [])) ∧ us'.length ≤ us.length + 5 ∧ (x ++ y).length ≤ x.length + 18 := by
  obtain ⟨g, hg⟩ := endsw _ hs
  obtain ⟨h1, h2, h3, h4, h5⟩ := ends_ok _ hg
  obtain ⟨h6, h7⟩ := lens_ok.2.2 _ hg
  dsimp only at h1 h2 h3 h4 h5 h6 h7
  have la : (x ++ y).length = x.length + y.length := by rw [← tl_len, tl_append, List.length_append, tl_len, tl_len]
  have hl1 : (rend us).length = x.length := by rw [← L9.txt, tl_len]
  have hd := hi.done (gapB_gap h3) h5
  rw [hl1] at hd
  exact ⟨us ++ g, L9.app h1 (okUb_ok h2) (.inr (wsB_ok h4)) (gap_nowd (gapB_gap h3)), hd, by rw [List.length_append]; omega, by omega⟩
theorem rgsize (n : Nat) : Builtin.Range.rangeSize 0 (n : Int) 1 = (n : Int) := by
  unfold Builtin.Range.rangeSize
  rw [if_pos (by omega)]
  split <;> omega
theorem rgsmall : ∀ n < 10, Builtin.Range.small 0 ((n : Nat) : Int) 1 = true := by decide +kernel
theorem seps_len : ∀ x ∈ SEPSW, x.length ≤ 9 := by decide +kernel
def LRowsPost (rest : List (Addr × Obj)) (r : Value) (nw : List (Addr × Obj)) : Prop :=
  ∃ (a D : Addr) (x : Str) (tx : Tok) (us : List U) (rs : List R3) (nD : Nat), r = .ref a ∧ nw = (a, tupO [.str x tx, .ref D]) :: (D, W.listOf (rs.map R3.ref).toArray nD) :: (rs.map R3.cell ++ rest) ∧ (∀ p ∈ rest, p.1 < a) ∧ Laid9 us x ∧ rs.map R3.dat = rowsF 0 none false us ∧ x.length < 10000 ∧ us.length < 10000 ∧ rs.length ≤ 1000
theorem ends_len : ∀ w ∈ ENDSW, w.1.length ≤ 18 := by decide +kernel
theorem led_end {h₀ h' : Heap} {L a X a10 : Addr} {l rest R : List (Addr × Obj)} {x : Str} {tx e1 e2 e3 : Tok} {us : List U} {rs : List R3} {vs : List Value} (N : News h₀ L h' l) (hR : rs.map R3.cell ++ rest = R) (hvs : rs.map R3.ref = vs) (m1 : (a, tupO [.str x tx, .ref X]) ∈ l) (m2 : (X, W.listOf (vs ++ [Value.ref a10]).toArray 0) ∈ l)
    (m3 : (a10, tupO [.str (Str.ofString "end") e1, .str (Str.ofString "") e2, .int (x.length : Int) e3]) ∈ l) (m4 : ∀ p ∈ R, p ∈ l) (lt : ∀ p ∈ rest, p.1 < a) (L9 : Laid9 us x) (hd : rs.map R3.dat ++ [(Str.ofString "end", Str.ofString "", (x.length : Int))] = rowsF 0 none false us) (b1 : x.length < 10000) (b2 : us.length < 10000) (b3 : rs.length < 1000) :
    ∃ nw, News h₀ L h' nw ∧ LRowsPost rest (.ref a) nw := by
  refine ⟨_, ?_, a, X, x, tx, us, rs ++ [⟨a10, Str.ofString "end", Str.ofString "", (x.length : Int), e1, e2, e3⟩], 0, rfl, rfl, lt, L9, ?_, b1, b2, ?_⟩
  · refine nw_perm N fun p hp => ?_
    rcases List.mem_cons.mp hp with rfl | hp
    · exact m1
    · rcases List.mem_cons.mp hp with rfl | hp
      · rw [List.map_append, hvs]
        exact m2
      · rw [List.map_append, List.append_assoc] at hp
        rcases List.mem_append.mp hp with hp | hp
        · exact m4 p (by rw [← hR]; exact List.mem_append_left _ hp)
        · rcases List.mem_append.mp hp with hp | hp
          · rcases List.mem_singleton.mp hp with rfl
            exact m3
          · exact m4 p (by rw [← hR]; exact List.mem_append_right _ hp)
  · rw [List.map_append]
    exact hd
  · rw [List.length_append, List.length_singleton]; omega
local macro_rules | `(tactic| walk_at "FsPost") => `(tactic| (dsimp only [FsPost]))
theorem fresh_lrows : True := by
  w_top off
  k_with_none
  trivial
theorem pick3 {t1 t2 t3 : Tok} {i : Nat} {r : Value} {a b c : Str} (h : [Value.str a t1, .str b t2, .str c t3][i]? = some r) : ∃ x tx, x ∈ [a, b, c] ∧ r = .str x tx := by
  match i, h with
  | 0, h => exact ⟨_, _, by simp, (Option.some.inj h).symm⟩
  | 1, h => exact ⟨_, _, by simp, (Option.some.inj h).symm⟩
  | 2, h => exact ⟨_, _, by simp, (Option.some.inj h).symm⟩
  | n + 3, h => simp at h
set_option maxHeartbeats 8000000 in
theorem lrows_tel (prog : Program) (w : World) (rest : List (Addr × Obj)) (S : Addr) (x0 x1 : Int) (u0 u1 : Tok) (n0 : Nat) (hs : SrcOk x0 x1) (hne : ∀ p ∈ rest, p.1 ≠ S) :
  TelC prog w 223 8 ((S, srcO x0 x1 u0 u1 n0) :: rest) [.ref S] (LRowsPost rest) := by
  unfold TelC
  intro p loose mean mg mb dp un gd cn cs a ccd cl outer A₀ base h₀ L m s Q B F X N T hk hdp hun hret
  refine wpC_call ?_
  k_dflt (walk_at "my enterK")
  intro g1 L1 h3 FG F1 N1 B1 X1 T1 l1
  try dsimp only
  obtain ⟨u, FX2⟩ := kst_ex [(Str.ofString "source", .ref S)] F1 (by kst_all)
  clear F1
  dsimp only [kstB] at FX2
  k_with_none
  refine toksC ?_
  intro tk2
  refine wpC_cutL (fun s' => ∃ (D : Addr) (x : Str) (tx v0 v1 : Tok) (y0 y1 : Int) (n : Nat), x ∈ STARTSW ∧ SrcOk y0 y1 ∧ S < D ∧ (∀ p ∈ rest, p.1 < D) ∧ MidS g1 L1 s [(Str.ofString "text", .str x tx), (Str.ofString "due", .ref D), (Str.ofString "source", .ref S)] ((S, srcO y0 y1 v0 v1 n) :: (D, W.listOf #[] 0) :: rest) s') ?_ ?_
  · walk_at "my steps"
    rename News g1 _ _ ((_, W.listOf #[_, _, _] 0) :: _) => N4
    rename (S < _ ∧ AllLt _ rest) => l4
    k_dflt (refine' Tel.use (one_tel prog w rest S _ x0 x1 u0 u1 n0 0 [_, _, _] hs (by simp) (by simp) hne (Nat.ne_of_gt l4.1)) ?k1 ?k2 ?k3 (nw_swap N4) ?k5 ?k6 ?k7 ?k8 ?_)
    case k1 => k_asm
    case k2 => k_asm
    case k3 => k_asm
    case k5 => k_asm
    case k6 => first | exact rfl | assumption
    case k7 => ktr_room
    case k8 => ktr_units
    intro r9 n9 h9 tk9 F9 N9 P9
    obtain ⟨y0, y1, v0, v1, n', i, hy, hi, rfl⟩ := P9
    obtain ⟨x, tx, hx, rfl⟩ := pick3 hi
    replace N9 : News g1 L1 h9 ((S, srcO y0 y1 v0 v1 n') :: rest) := nw_perm N9 (fun p hp => by
      rcases List.mem_cons.mp hp with rfl | hp
      · exact .head _
      · exact .tail _ (.tail _ hp))
    walk_at "my steps"
    rename (S < _ ∧ AllLt _ rest) => l5
    exact ⟨rfl, _, x, tx, v0, v1, y0, y1, n', hx, hy, l5.1, ktn_ltOf l5.2, midS (by assumption) (by assumption) (by kst_all) (fun p hp => by
      rcases List.mem_cons.mp hp with rfl | hp
      · exact .tail _ (.tail _ (.head _))
      · rcases List.mem_cons.mp hp with rfl | hp
        · exact .tail _ (.head _)
        · exact .tail _ (.tail _ (.tail _ hp)))⟩
  · clear FX2 N1
    rintro s5 ⟨D, x, tx, v0, v1, y0, y1, n, hx, hy, hSD, hrD, u5, h5, tk5, rfl, F5, N5⟩
    dsimp only [kstB] at F5
    have hne5 : ∀ p ∈ (D, W.listOf #[] 0) :: rest, p.1 ≠ S := fun p hp => by
      rcases List.mem_cons.mp hp with rfl | hp
      · exact Nat.ne_of_gt hSD
      · exact hne p hp
    refine wpC_cutL (fun s' => ∃ (v0 v1 tm : Tok) (y0 y1 : Int) (n : Nat) (many : Nat), many < 6 ∧ SrcOk y0 y1 ∧ MidS g1 L1 s [(Str.ofString "text", .str x tx), (Str.ofString "due", .ref D), (Str.ofString "source", .ref S), (Str.ofString "many", .int (many : Int) tm)] ((S, srcO y0 y1 v0 v1 n) :: (D, W.listOf #[] 0) :: rest) s') ?_ ?_
    · k_with "my call" =>
        (with_reducible show wpAny _ _ (PySem.call (Value.ref 195) _ _) _ _ _)
        ktn_call 0 (take_tel prog w _ S y0 y1 v0 v1 _ n 6 hy (by decide) (by decide) hne5)
        intro r9 n9 h9 tk9 F9 N9 P9
        obtain ⟨z0, z1, w0, w1, uf, n', f, hz, hf0, hf1, rfl, rfl⟩ := P9
      walk_at "my steps"
      obtain ⟨many, rfl⟩ : ∃ many : Nat, f = (many : Int) := ⟨f.toNat, by omega⟩
      exact ⟨rfl, w0, w1, uf, z0, z1, n', many, by omega, hz, midS (by assumption) (by assumption) (by kst_all) (fun p hp => hp)⟩
    · clear F5 N5
      rintro s6 ⟨w0, w1, tm, z0, z1, n1, many, hmany, hz, u6, h6, tk6, rfl, F6, N6⟩
      dsimp only [kstB] at F6
      obtain ⟨us0, q1, q2, q3, q4⟩ := starts9 hx
      refine wpC_execs_cons (wpC_ForRangeS (h₀ := g1) (σ := LS) 0 (fun n => n = many) (fun c => (S, c.src) :: (D, c.lst) :: (c.rs.map R3.cell ++ rest)) (fun c => [(Str.ofString "text", .str c.x c.tx), (Str.ofString "due", .ref D), (Str.ofString "source", .ref S), (Str.ofString "many", .int (many : Int) tm)])
        (fun n i c => LBase D (10 + 100 * i) (10 + 100 * i) (10 * i) c ∧ (RowSt c.us (c.rs.map R3.dat) ∨ (i = n ∧ FinU c.us (c.rs.map R3.dat)))) rfl rfl rfl ?_ ?_ ?_)
      · walk_at "my steps"
        exact fs_start many ⟨x, tx, us0, [], 0, z0, z1, w0, w1, n1, false⟩ (by assumption) (by assumption) (by assumption) (fun p hp => hp) (by kst_all) (rgsize many) (rgsmall many (by omega)) rfl ⟨⟨q1, hz, by simp, by dsimp only; omega, by dsimp only; omega, by simp⟩, .inl q2⟩
      · clear F6 N6
        intro n I i c u h tk t hn9 hi hP hI F7 N7
        subst hn9
        obtain ⟨hB, hP⟩ := hP
        dsimp only [kstB] at F7
        rw [Int.zero_add] at F7
        replace hP : RowSt c.us (c.rs.map R3.dat) := by
          rcases hP with hP | ⟨hP, _⟩
          · exact hP
          · omega
        obtain ⟨oI, hoI⟩ : ∃ oI, krsIt (0 + ((i + 1 : Nat) : Int)) ((n : Int) - ((i + 1 : Nat) : Int)) 1 = oI := ⟨_, rfl⟩
        rw [hoI] at N7 ⊢
        obtain ⟨R, hR⟩ : ∃ R, c.rs.map R3.cell ++ rest = R := ⟨_, rfl⟩
        have hRS : ∀ p ∈ (I, oI) :: (D, c.lst) :: R, p.1 ≠ S := by
          intro p hp
          rcases List.mem_cons.mp hp with rfl | hp
          · exact fun e => hI _ (.head _) e.symm
          · rcases List.mem_cons.mp hp with rfl | hp
            · exact Nat.ne_of_gt hSD
            · rw [← hR] at hp
              rcases List.mem_append.mp hp with hp | hp
              · obtain ⟨r, hr, rfl⟩ := List.mem_map.mp hp
                exact Nat.ne_of_gt (Nat.lt_trans hSD (hB.above r hr))
              · exact hne p hp
        have hcI : ∀ r ∈ c.rs, r.a ≠ I := fun r hr => hI r.cell (.tail _ (.tail _ (List.mem_append_left _ (List.mem_map_of_mem hr))))
        replace N7 : News g1 L1 h ((S, srcO c.x0 c.x1 c.u0 c.u1 c.n) :: (I, oI) :: (D, c.lst) :: R) := by
          rw [hR] at N7
          exact nw_swap N7
        refine wpC_leaf ?_
        walk_at "my steps"
        rename Fr g1 _ _ _ => F8
        obtain ⟨u8, F9⟩ := kst_ex [(Str.ofString "is_ending", .bool false), (Str.ofString "text", .str c.x c.tx), (Str.ofString "due", .ref D), (Str.ofString "source", .ref S), (Str.ofString "many", .int (n : Int) tm), (Str.ofString "turn", .int (i : Int) t)] F8 (by kst_all)
        clear F8
        dsimp only [kstB] at F9
        refine wpC_cut (fun s' => ∃ c2 : LS, LBase D (90 + 100 * i) (90 + 100 * i) (4 + 10 * i) c2 ∧ InRow c2.us (c2.rs.map R3.dat) c2.e ∧ (∀ r ∈ c2.rs, r.a ≠ I) ∧ MidS g1 L1 s [(Str.ofString "is_ending", .bool c2.e), (Str.ofString "text", .str c2.x c2.tx), (Str.ofString "due", .ref D), (Str.ofString "source", .ref S), (Str.ofString "many", .int (n : Int) tm), (Str.ofString "turn", .int (i : Int) t)] ((S, c2.src) :: (I, oI) :: (D, c2.lst) :: (c2.rs.map R3.cell ++ rest)) s') ?_ ?_
        · refine wpC_ForRangeS (h₀ := g1) (σ := LS) 0 (fun n => n < 5) (fun c => (S, c.src) :: (I, oI) :: (D, c.lst) :: (c.rs.map R3.cell ++ rest)) (fun c => [(Str.ofString "is_ending", .bool c.e), (Str.ofString "text", .str c.x c.tx), (Str.ofString "due", .ref D), (Str.ofString "source", .ref S), (Str.ofString "many", .int (n : Int) tm), (Str.ofString "turn", .int (i : Int) t)])
            (fun _ j c => LBase D (10 + 100 * i + 20 * j) (10 + 100 * i + 20 * j) (10 * i + j) c ∧ InRow c.us (c.rs.map R3.dat) c.e ∧ (∀ r ∈ c.rs, r.a ≠ I)) rfl rfl rfl ?_ ?_ ?_
          · k_with "my call" =>
              (with_reducible show wpAny _ _ (PySem.call (Value.ref 195) _ _) _ _ _)
              ktn_call 0 (take_tel prog w _ S c.x0 c.x1 c.u0 c.u1 _ c.n 5 hB.src (by decide) (by decide) hRS)
              intro r9 n9 h9 tk9 F9 N9 P9
              obtain ⟨y0, y1, v0, v1, uf, n', f, hy, hf0, hf1, rfl, rfl⟩ := P9
              obtain ⟨k, rfl⟩ : ∃ k : Nat, f = (k : Int) := ⟨f.toNat, by omega⟩
            walk_at "my steps"
            exact fs_start k ⟨c.x, c.tx, c.us, c.rs, c.nD, y0, y1, v0, v1, n', false⟩ (by assumption) (by assumption) (by assumption) (fun p hp => by rw [← hR]; exact hp) (by kst_all) (rgsize k) (rgsmall k (by omega)) (show k < 5 by omega) ⟨⟨hB.laid, hy, hB.above, Nat.le_trans hB.xl (by omega), Nat.le_trans hB.ul (by omega), Nat.le_trans hB.rl (by omega)⟩, hP.begin, hcI⟩
          · clear F9 F7
            intro k I2 j c2 u2 h2 tk2 t2 hk5 hjk hP2 hI2 F10 N10
            obtain ⟨hB2, hP2, hcI2⟩ := hP2
            dsimp only [kstB] at F10
            rename News g1 _ _ ((_, srcO c.x0 _ _ _ _) :: _) => Nold
            clear hR hRS Nold
            clear R
            obtain ⟨oI2, hoI2⟩ : ∃ oI2, krsIt (0 + ((j + 1 : Nat) : Int)) ((k : Int) - ((j + 1 : Nat) : Int)) 1 = oI2 := ⟨_, rfl⟩
            rw [hoI2] at N10 ⊢
            obtain ⟨R, hR⟩ : ∃ R, c2.rs.map R3.cell ++ rest = R := ⟨_, rfl⟩
            obtain ⟨vs, hvs⟩ : ∃ vs, c2.rs.map R3.ref = vs := ⟨_, rfl⟩
            have hRS : ∀ p ∈ (I2, oI2) :: (I, oI) :: (D, W.listOf vs.toArray c2.nD) :: R, p.1 ≠ S := by
              intro p hp
              rcases List.mem_cons.mp hp with rfl | hp
              · exact fun e => hI2 _ (.head _) e.symm
              · rcases List.mem_cons.mp hp with rfl | hp
                · exact fun e => hI _ (.head _) e.symm
                · rcases List.mem_cons.mp hp with rfl | hp
                  · exact Nat.ne_of_gt hSD
                  · rw [← hR] at hp
                    rcases List.mem_append.mp hp with hp | hp
                    · obtain ⟨r, hr, rfl⟩ := List.mem_map.mp hp
                      exact Nat.ne_of_gt (Nat.lt_trans hSD (hB2.above r hr))
                    · exact hne p hp
            have hRD : ∀ p ∈ R, p.1 ≠ D := by
              intro p hp
              rw [← hR] at hp
              rcases List.mem_append.mp hp with hp | hp
              · obtain ⟨r, hr, rfl⟩ := List.mem_map.mp hp
                exact Nat.ne_of_gt (hB2.above r hr)
              · exact Nat.ne_of_lt (hrD p hp)
            have hvl : vs.length ≤ 100 := by
              rw [← hvs, List.length_map]
              exact Nat.le_trans hB2.rl (by omega)
            have hvz : vs.toArray.size ≤ sizeLine := by
              rw [List.size_toArray]
              unfold sizeLine
              omega
            replace N10 : News g1 L1 h2 ((S, srcO c2.x0 c2.x1 c2.u0 c2.u1 c2.n) :: (I2, oI2) :: (I, oI) :: (D, W.listOf vs.toArray c2.nD) :: R) := by
              rw [hR] at N10
              rw [← hvs]
              exact nw_swap N10
            refine toksC ?_
            intro tk11
            refine wpC_cutL (fun s' => ∃ (kd tt : Str) (e : Bool) (t1 t2' v0 v1 : Tok) (y0 y1 : Int) (n3 : Nat), (kd, tt, e) ∈ WORDS ∧ SrcOk y0 y1 ∧ MidS g1 L1 s [(Str.ofString "is_ending", .bool e), (Str.ofString "text", .str c2.x c2.tx), (Str.ofString "due", .ref D), (Str.ofString "source", .ref S), (Str.ofString "many", .int (n : Int) tm), (Str.ofString "turn", .int (i : Int) t), (Str.ofString "kind", .str kd t1), (Str.ofString "told", .str tt t2')] ((S, srcO y0 y1 v0 v1 n3) :: (I2, oI2) :: (I, oI) :: (D, W.listOf vs.toArray c2.nD) :: R) s') ?_ ?_
            · k_with "my call" =>
                (with_reducible show wpAny _ _ (PySem.call (Value.ref 209) _ _) _ _ _)
                ktn_call 0 (lword_tel prog w _ S c2.x0 c2.x1 c2.u0 c2.u1 c2.n hB2.src hRS)
                intro r9 n9 h9 tk9 F9 N9 P9
                obtain ⟨y0, y1, v0, v1, n', kd, tt, e, a9, w1, w2, hy, hm, rfl, hSa, hra, rfl⟩ := P9
              walk_at "my steps"
              exact ⟨rfl, kd, tt, e, w1, w2, v0, v1, y0, y1, n', hm, hy, midS (by assumption) (by assumption) (by kst_all) (fun p hp => .tail _ hp)⟩
            · clear F10 N10
              rintro s12 ⟨kd, tt, e, t12, t13, v0, v1, y0, y1, n3, hm, hy, u12, h12, tk12, rfl, F12, N12⟩
              dsimp only [kstB] at F12
              refine toksC ?_
              intro tk13
              refine wpC_cutL (fun s' => ∃ (sep : Str) (tx3 v0 v1 : Tok) (y0 y1 : Int) (n3 : Nat), sep ∈ SEPSW ∧ SrcOk y0 y1 ∧ MidS g1 L1 s [(Str.ofString "is_ending", .bool e), (Str.ofString "text", .str (c2.x ++ sep) tx3), (Str.ofString "due", .ref D), (Str.ofString "source", .ref S), (Str.ofString "many", .int (n : Int) tm), (Str.ofString "turn", .int (i : Int) t), (Str.ofString "kind", .str kd t12), (Str.ofString "told", .str tt t13)] ((S, srcO y0 y1 v0 v1 n3) :: (I2, oI2) :: (I, oI) :: (D, W.listOf vs.toArray c2.nD) :: R) s') ?_ ?_
              · walk_at "my steps"
                rename News g1 _ _ ((_, W.listOf #[_, _, _] 0) :: _) => N4
                rename (S < _ ∧ I2 < _ ∧ _) => l4
                k_dflt (refine' Tel.use (one_tel prog w _ S _ y0 y1 v0 v1 n3 0 [_, _, _] hy (by simp) (by simp) hRS (Nat.ne_of_gt l4.1)) ?k1 ?k2 ?k3 (nw_swap N4) ?k5 ?k6 ?k7 ?k8 ?_)
                case k1 => k_asm
                case k2 => k_asm
                case k3 => k_asm
                case k5 => k_asm
                case k6 => first | exact rfl | assumption
                case k7 => ktr_room
                case k8 => ktr_units
                intro r9 n9 h9 tk9 F9 N9 P9
                obtain ⟨z0, z1, w0, w1, n', ix, hz, hix, rfl⟩ := P9
                obtain ⟨sep, ts, hx, rfl⟩ := pick3 hix
                replace N9 : News g1 L1 h9 ((S, srcO z0 z1 w0 w1 n') :: (I2, oI2) :: (I, oI) :: (D, W.listOf vs.toArray c2.nD) :: R) := nw_perm N9 (fun p hp => by
                  rcases List.mem_cons.mp hp with rfl | hp
                  · exact .head _
                  · exact .tail _ (.tail _ hp))
                have hsl := seps_len sep hx
                have hxl := hB2.xl
                refine PyProof.Rows.add_str (hsz := by unfold sizeLine; omega) ?_
                intro t9 k9
                walk_at "my steps"
                exact ⟨rfl, sep, _, w0, w1, z0, z1, n', hx, hz, midS (by assumption) (by assumption) (by kst_all) (fun p hp => hp)⟩
              · clear F12 N12
                rintro s14 ⟨sep, tx3, v0, v1, y0, y1, n3, hsep, hy, u14, h14, tk14, rfl, F14, N14⟩
                dsimp only [kstB] at F14
                have hsl := seps_len sep hsep
                have hxl := hB2.xl
                have hwl := (words_wok _ hm).2
                dsimp only at hwl
                obtain ⟨us3, g1', g2, g3, g4, g5⟩ := laidWord hB2.laid hP2 hsep hm
                obtain ⟨y, hy9⟩ : ∃ y, c2.x ++ sep = y := ⟨_, rfl⟩
                rw [hy9] at F14 g1' g2 g4 g5
                have hID : I ≠ D := fun e => hI _ (.tail _ (.head _)) e.symm
                have hI2D : I2 ≠ D := fun e => hI2 _ (.tail _ (.tail _ (.head _))) e.symm
                k_with "my app" =>
                  rename (S < _ ∧ I2 < _ ∧ I < _ ∧ D < _ ∧ AllLt _ R) => lz
                  rename Fr g1 _ _ _ => lF
                  rename News g1 _ _ _ => lN
                  refine append_K lF lN (.tail (Nat.ne_of_gt lz.2.2.2.1) (.tail (Nat.ne_of_lt hSD) (.tail hI2D (.tail hID (.head hRD))))) ?_ hvz
                  intro h8 F8 N8
                refine toksC ?_
                intro tk15
                refine wpC_leaf ?_
                walk_at "my steps"
                refine wpC_leaf ?_
                repeat' (first
                  | (with_reducible show wpAny _ _ (binaryOp Operator.Add (Value.str _ _) (Value.str _ _)) _ _ _
                     refine PyProof.Rows.add_str (hsz := by unfold sizeLine; omega) ?_
                     intro t9 k9)
                  | (k_unfold; (try dsimp only)) | walk1 | (dsimp only; walk1) | fail "no step")
                rename News g1 _ _ _ => N16
                rename (S < _ ∧ I2 < _ ∧ I < _ ∧ D < _ ∧ AllLt _ R) => lz
                obtain ⟨a16, N17, lz2, lz3, lz4⟩ : ∃ a16, News g1 L1 _ ((a16, tupO [.str kd t12, .str tt t13, .int (y.length : Int) (tk15 + 1)]) :: (S, srcO y0 y1 v0 v1 n3) :: (I2, oI2) :: (I, oI) :: (D, W.listOf (vs.toArray.push (.ref a16)) (c2.nD + 1)) :: R) ∧ I2 < a16 ∧ I < a16 ∧ D < a16 := ⟨_, N16, lz.2.1, lz.2.2.1, lz.2.2.2.1⟩
                clear lz N16
                refine wpC_execs_nil (fs_end ⟨y ++ tt, t9, us3, c2.rs ++ [⟨a16, kd, tt, (y.length : Int), t12, t13, tk15 + 1⟩], c2.nD + 1, y0, y1, v0, v1, n3, e⟩ (by assumption) N17 ?_ ?_ (by kst_all) ⟨⟨g1', hy, ?_, ?_, ?_, ?_⟩, ?_, ?_⟩)
                · intro p hp
                  rcases List.mem_cons.mp hp with rfl | hp
                  · exact .tail _ (.tail _ (.head _))
                  · rcases List.mem_cons.mp hp with rfl | hp
                    · exact .tail _ (.head _)
                    · rcases List.mem_cons.mp hp with rfl | hp
                      · exact .tail _ (.tail _ (.tail _ (.head _)))
                      · exact led_grow3 (pre := []) hR hvs ⟨a16, kd, tt, (y.length : Int), t12, t13, tk15 + 1⟩ (.head _) (.tail _ (.tail _ (.tail _ (.tail _ (.head _))))) (fun p hp => by cases hp) (fun p hp => .tail _ (.tail _ (.tail _ (.tail _ (.tail _ hp))))) p hp
                · intro p hp
                  rcases List.mem_cons.mp hp with rfl | hp
                  · exact hI2 (S, c2.src) (.head _)
                  · rcases List.mem_cons.mp hp with rfl | hp
                    · exact hI2 _ (.tail _ (.head _))
                    · rcases List.mem_cons.mp hp with rfl | hp
                      · exact Ne.symm hI2D
                      · rw [List.map_append, List.append_assoc] at hp
                        rcases List.mem_append.mp hp with hp | hp
                        · exact hI2 p (.tail _ (.tail _ (.tail _ (List.mem_append_left _ hp))))
                        · rcases List.mem_append.mp hp with hp | hp
                          · rcases List.mem_singleton.mp hp with rfl
                            exact Nat.ne_of_gt lz2
                          · exact hI2 p (.tail _ (.tail _ (.tail _ (List.mem_append_right _ hp))))
                · intro r hr
                  rcases List.mem_append.mp hr with hr | hr
                  · exact hB2.above r hr
                  · rcases List.mem_singleton.mp hr with rfl
                    exact lz4
                · dsimp only; omega
                · have := hB2.ul; dsimp only; omega
                · have := hB2.rl; dsimp only; rw [List.length_append, List.length_singleton]; omega
                · dsimp only; rw [List.map_append]; exact g2
                · intro r hr
                  rcases List.mem_append.mp hr with hr | hr
                  · exact hcI2 r hr
                  · rcases List.mem_singleton.mp hr with rfl
                    exact Nat.ne_of_gt lz3
          · intro k c2 u2 h2 tk2 hk hP2 F10 N10
            exact ⟨rfl, c2, ⟨hP2.1.laid, hP2.1.src, hP2.1.above, Nat.le_trans hP2.1.xl (by omega), Nat.le_trans hP2.1.ul (by omega), Nat.le_trans hP2.1.rl (by omega)⟩, hP2.2.1, hP2.2.2, u2, h2, tk2, rfl, F10, N10⟩
        · rename News g1 _ _ ((_, srcO c.x0 _ _ _ _) :: _) => Nold
          have hSI : S ≠ I := hI (S, c.src) (.head _)
          have hID : I ≠ D := fun e => hI _ (.tail _ (.head _)) e.symm
          have hrI : ∀ p ∈ rest, p.1 ≠ I := fun p hp => hI p (.tail _ (.tail _ (List.mem_append_right _ hp)))
          clear F9 F7 hB hP hcI hRS hR Nold hI
          clear R
          rintro s20 ⟨c2, hB, hP, hcI, u20, h20, tk20, rfl, F20, N20⟩
          dsimp only [kstB] at F20
          obtain ⟨R, hR⟩ : ∃ R, c2.rs.map R3.cell ++ rest = R := ⟨_, rfl⟩
          obtain ⟨vs, hvs⟩ : ∃ vs, c2.rs.map R3.ref = vs := ⟨_, rfl⟩
          have hRS : ∀ p ∈ (I, oI) :: (D, W.listOf vs.toArray c2.nD) :: R, p.1 ≠ S := by
            intro p hp
            rcases List.mem_cons.mp hp with rfl | hp
            · exact Ne.symm hSI
            · rcases List.mem_cons.mp hp with rfl | hp
              · exact Nat.ne_of_gt hSD
              · rw [← hR] at hp
                rcases List.mem_append.mp hp with hp | hp
                · obtain ⟨r, hr, rfl⟩ := List.mem_map.mp hp
                  exact Nat.ne_of_gt (Nat.lt_trans hSD (hB.above r hr))
                · exact hne p hp
          have hRD : ∀ p ∈ R, p.1 ≠ D := by
            intro p hp
            rw [← hR] at hp
            rcases List.mem_append.mp hp with hp | hp
            · obtain ⟨r, hr, rfl⟩ := List.mem_map.mp hp
              exact Nat.ne_of_gt (hB.above r hr)
            · exact Nat.ne_of_lt (hrD p hp)
          have hvl : vs.length ≤ 100 := by
            rw [← hvs, List.length_map]
            exact Nat.le_trans hB.rl (by omega)
          have hvz : vs.toArray.size ≤ sizeLine := by
            rw [List.size_toArray]
            unfold sizeLine
            omega
          replace N20 : News g1 L1 h20 ((S, srcO c2.x0 c2.x1 c2.u0 c2.u1 c2.n) :: (I, oI) :: (D, W.listOf vs.toArray c2.nD) :: R) := by
            rw [hR] at N20
            rw [← hvs]
            exact N20
          refine toksC ?_
          intro tk21
          refine wpC_cutL (fun s' => ∃ (y : Str) (j : Nat) (te ta v0 v1 : Tok) (y0 y1 : Int) (n3 : Nat), ((y, j) ∈ ENDSW ∨ (i + 1 = n ∧ y = Str.ofString "" ∧ j = 0)) ∧ SrcOk y0 y1 ∧ MidS g1 L1 s [(Str.ofString "is_ending", .bool c2.e), (Str.ofString "text", .str c2.x c2.tx), (Str.ofString "due", .ref D), (Str.ofString "source", .ref S), (Str.ofString "many", .int (n : Int) tm), (Str.ofString "end", .str y te), (Str.ofString "at", .int (j : Int) ta)] ((S, srcO y0 y1 v0 v1 n3) :: (I, oI) :: (D, W.listOf vs.toArray c2.nD) :: R) s') ?_ ?_
          · k_with "my call" => first
              | ((with_reducible show wpAny _ _ (PySem.call (Value.ref 195) _ _) _ _ _)
                 ktn_call 0 (take_tel prog w _ S c2.x0 c2.x1 c2.u0 c2.u1 _ c2.n 2 hB.src (by decide) (by decide) hRS)
                 intro r9 n9 h9 tk9 F9 N9 P9
                 obtain ⟨y0, y1, v0, v1, uf, n', f, hy, hf0, hf1, rfl, rfl⟩ := P9)
            walk_at "my steps"
            · ktn_call 0 (lend_tel prog w _ S c2.x0 c2.x1 c2.u0 c2.u1 c2.n hB.src hRS)
              intro r9 n9 h9 tk9 F9 N9 P9
              obtain ⟨y0, y1, v0, v1, n', y, jj, a9, w1, w2, hy, hm, rfl, hSa, hra, rfl⟩ := P9
              walk_at "my steps"
              exact ⟨rfl, y, jj, w1, w2, v0, v1, y0, y1, n', .inl hm, hy, midS (by assumption) (by assumption) (by kst_all) (fun p hp => .tail _ hp)⟩
            · ktn_call 0 (lend_tel prog w _ S y0 y1 v0 v1 n' hy hRS)
              intro r9 n9 h9 tk9 F9 N9 P9
              obtain ⟨y0, y1, v0, v1, n', y, jj, a9, w1, w2, hy, hm, rfl, hSa, hra, rfl⟩ := P9
              walk_at "my steps"
              exact ⟨rfl, y, jj, w1, w2, v0, v1, y0, y1, n', .inl hm, hy, midS (by assumption) (by assumption) (by kst_all) (fun p hp => .tail _ hp)⟩
            · exact ⟨rfl, Str.ofString "", 0, _, _, v0, v1, y0, y1, n', .inr ⟨by omega, rfl, rfl⟩, hy, midS (by assumption) (by assumption) (by kst_all) (fun p hp => .tail _ hp)⟩
          · clear F20 N20
            rintro s21 ⟨y, jj, te, ta, v0, v1, y0, y1, n3, hend, hy, u21, h21, tk21, rfl, F21, N21⟩
            dsimp only [kstB] at F21
            refine toksC ?_
            intro tk22
            refine wpC_cutL (fun s' => ∃ (rs2 : List R3) (nD2 : Nat), rs2.map R3.dat = c2.rs.map R3.dat ++ (if c2.e then [(Str.ofString "sign", Str.ofString ";", ((c2.x.length : Int) + (jj : Int)))] else []) ∧ (∀ r ∈ rs2, D < r.a) ∧ (∀ r ∈ rs2, r.a ≠ I) ∧ MidS g1 L1 s [(Str.ofString "text", .str c2.x c2.tx), (Str.ofString "due", .ref D), (Str.ofString "source", .ref S), (Str.ofString "many", .int (n : Int) tm), (Str.ofString "end", .str y te)] ((S, srcO y0 y1 v0 v1 n3) :: (I, oI) :: (D, W.listOf (rs2.map R3.ref).toArray nD2) :: (rs2.map R3.cell ++ rest)) s') ?_ ?_
            · have hxl := hB.xl
              k_with "my app" =>
                rename (S < _ ∧ I < _ ∧ D < _ ∧ AllLt _ R) => lz
                rename Fr g1 _ _ _ => lF
                rename News g1 _ _ _ => lN
                refine append_K lF lN (.tail (Nat.ne_of_gt lz.2.2.1) (.tail (Nat.ne_of_lt hSD) (.tail hID (.head hRD)))) ?_ hvz
                intro h8 F8 N8
              cases hce : c2.e with
              | false =>
                rw [hce] at F21
                walk_at "my steps"
                subst hR hvs
                exact ⟨rfl, c2.rs, c2.nD, by simp, hB.above, hcI, midS (by assumption) (by assumption) (by kst_all) (fun p hp => hp)⟩
              | true =>
                rw [hce] at F21
                walk_at "my steps"
                rename (S < _ ∧ I < _ ∧ D < _ ∧ AllLt _ R) => lz
                rename Fr g1 _ _ _ => F16
                rename News g1 _ _ _ => N16
                obtain ⟨a16, ta1, ta2, ta3, N17, lz3, lz4⟩ : ∃ a16 ta1 ta2 ta3, News g1 L1 _ ((a16, tupO [.str (Str.ofString "sign") ta1, .str (Str.ofString ";") ta2, .int ((c2.x.length : Int) + (jj : Int)) ta3]) :: (S, srcO y0 y1 v0 v1 n3) :: (I, oI) :: (D, W.listOf (vs.toArray.push (.ref a16)) (c2.nD + 1)) :: R) ∧ I < a16 ∧ D < a16 := ⟨_, _, _, _, N16, lz.2.1, lz.2.2.1⟩
                clear lz N16
                refine ⟨rfl, c2.rs ++ [⟨a16, Str.ofString "sign", Str.ofString ";", (c2.x.length : Int) + (jj : Int), ta1, ta2, ta3⟩], c2.nD + 1, by rw [List.map_append]; rfl, ?_, ?_, midS F16 N17 (by kst_all) ?_⟩
                · intro r hr
                  rcases List.mem_append.mp hr with hr | hr
                  · exact hB.above r hr
                  · rcases List.mem_singleton.mp hr with rfl
                    exact lz4
                · intro r hr
                  rcases List.mem_append.mp hr with hr | hr
                  · exact hcI r hr
                  · rcases List.mem_singleton.mp hr with rfl
                    exact Nat.ne_of_gt lz3
                · intro p hp
                  rcases List.mem_cons.mp hp with rfl | hp
                  · exact .tail _ (.head _)
                  · rcases List.mem_cons.mp hp with rfl | hp
                    · exact .tail _ (.tail _ (.head _))
                    · exact led_grow3 (pre := []) hR hvs ⟨a16, Str.ofString "sign", Str.ofString ";", (c2.x.length : Int) + (jj : Int), ta1, ta2, ta3⟩ (.head _) (.tail _ (.tail _ (.tail _ (.head _)))) (fun p hp => by cases hp) (fun p hp => .tail _ (.tail _ (.tail _ (.tail _ hp)))) p hp
            · clear F21 N21
              rintro s22 ⟨rs2, nD2, hd2, hD2, hI2, u22, h22, tk22, rfl, F22, N22⟩
              dsimp only [kstB] at F22
              have hxl := hB.xl
              have hyl : y.length ≤ 18 := by
                rcases hend with h | ⟨_, rfl, _⟩
                · exact ends_len _ h
                · decide
              have hend2 : ∃ us', Laid9 us' (c2.x ++ y) ∧ (RowSt us' (rs2.map R3.dat) ∨ (i + 1 = n ∧ FinU us' (rs2.map R3.dat))) ∧ us'.length ≤ c2.us.length + 5 ∧ (c2.x ++ y).length ≤ c2.x.length + 18 := by
                rcases hend with h | ⟨hn, rfl, rfl⟩
                · obtain ⟨us', q1, q2, q3, q4⟩ := laidEnd hB.laid hP h
                  rw [← hd2] at q2
                  exact ⟨us', q1, .inl q2, q3, q4⟩
                · have hl1 : (rend c2.us).length = c2.x.length := by rw [← hB.laid.txt, tl_len]
                  have q := hP.last
                  rw [hl1] at q
                  have e : c2.x ++ Str.ofString "" = c2.x := by
                    show (⟨c2.x.cps ++ #[]⟩ : Str) = c2.x
                    rw [Array.append_empty]
                  rw [e]
                  exact ⟨c2.us, hB.laid, .inr ⟨hn, by rw [hd2]; exact q⟩, by omega, by omega⟩
              obtain ⟨us', q1, q2, q3, q4⟩ := hend2
              have hrl : rs2.length ≤ c2.rs.length + 1 := by
                have := congrArg List.length hd2
                rw [List.length_map, List.length_append, List.length_map] at this
                have : (if c2.e = true then [(Str.ofString "sign", Str.ofString ";", ((c2.x.length : Int) + (jj : Int)))] else []).length ≤ 1 := by split <;> simp
                omega
              refine wpC_leaf ?_
              repeat' (first
                | (with_reducible show wpAny _ _ (binaryOp Operator.Add (Value.str _ _) (Value.str _ _)) _ _ _
                   refine PyProof.Rows.add_str (hsz := by unfold sizeLine; omega) ?_
                   intro t9 k9)
                | (k_unfold; (try dsimp only)) | walk1 | (dsimp only; walk1) | fail "no step")
              rename News g1 _ _ _ => N24
              refine wpC_execs_nil (fs_end ⟨c2.x ++ y, t9, us', rs2, nD2, y0, y1, v0, v1, n3, false⟩ (by assumption) N24 ?_ ?_ (by kst_all) ⟨⟨q1, hy, hD2, ?_, ?_, ?_⟩, q2⟩)
              · intro p hp
                rcases List.mem_cons.mp hp with rfl | hp
                · exact .tail _ (.head _)
                · rcases List.mem_cons.mp hp with rfl | hp
                  · exact .head _
                  · exact .tail _ (.tail _ hp)
              · intro p hp
                rcases List.mem_cons.mp hp with rfl | hp
                · exact hSI
                · rcases List.mem_cons.mp hp with rfl | hp
                  · exact Ne.symm hID
                  · rcases List.mem_append.mp hp with hp | hp
                    · obtain ⟨r, hr, rfl⟩ := List.mem_map.mp hp
                      exact hI2 r hr
                    · exact hrI p hp
              · dsimp only; omega
              · have := hB.ul; dsimp only; omega
              · have := hB.rl; dsimp only; omega
      · clear F6 N6
        intro n c u h tk hn9 hP F7 N7
        subst hn9
        obtain ⟨hB, hP⟩ := hP
        dsimp only [kstB] at F7
        have hFin : FinU c.us (c.rs.map R3.dat) := by
          rcases hP with hP | ⟨_, hP⟩
          · exact hP.fin
          · exact hP
        have hrows := hFin.rows
        have hl1 : (rend c.us).length = c.x.length := by rw [← hB.laid.txt, tl_len]
        rw [hl1] at hrows
        have hxl := hB.xl
        have hul := hB.ul
        have hrl := hB.rl
        obtain ⟨R, hR⟩ : ∃ R, c.rs.map R3.cell ++ rest = R := ⟨_, rfl⟩
        obtain ⟨vs, hvs⟩ : ∃ vs, c.rs.map R3.ref = vs := ⟨_, rfl⟩
        have hvl : vs.length ≤ 100 := by
          rw [← hvs, List.length_map]
          omega
        have hvz : vs.toArray.size ≤ sizeLine := by
          rw [List.size_toArray]
          unfold sizeLine
          omega
        replace N7 : News g1 L1 h ((S, srcO c.x0 c.x1 c.u0 c.u1 c.n) :: (D, W.listOf vs.toArray c.nD) :: R) := by
          rw [hR] at N7
          rw [← hvs]
          exact N7
        refine toksC ?_
        intro tk22
        refine wpC_leaf ?_
        walk_at "my steps"
        rename News h₀ L _ _ => kN
        rename (_ ∧ _ ∧ _ ∧ S < _ ∧ D < _ ∧ AllLt _ R) => l9
        obtain ⟨nw, n1', n2'⟩ := led_end kN hR hvs (.head _) (.tail _ (.head _)) (.tail _ (.tail _ (.tail _ (.head _)))) (fun p hp => .tail _ (.tail _ (.tail _ (.tail _ (.tail _ (.tail _ hp)))))) (fun p hp => ktn_ltOf l9.2.2.2.2.2 p (by rw [← hR]; exact List.mem_append_right _ hp)) hB.laid hrows (by omega) (by omega) (by omega)
        exact hret _ nw _ _ (by k_asm) n1' n2'
theorem fresh_pool : True := by
  w_top off
  k_with_none
  trivial
def TelS (prog : Program) (w : World) (f : Addr) (sz : Nat) (scr : Addr) (sv : List Value) (news : List (Addr × Obj)) (vs : List Value) (Post : Value → List (Addr × Obj) → Prop) : Prop :=
  ∀ (p : Program) (loose : List Str) (mean : ExcName → Option Value) (mg mb : Str → Option Value)
    (dp un : Nat) (gd : Option (List Code)) (cn : Str) (cs : Scope) (a : Addr) (ccd : Value) (cl : List (Str × Addr)) (outer : List Env) (A₀ : Around) (base h₀ : Heap) (L : Addr) (m : Str → Option Value) (s : Shared) (Q E : Value → Shared → Prop),
    h₀.IsList scr sv.toArray → Below A₀ base outer h₀ → Fr h₀ L s.heap m → (K9 w.params).In h₀ → News h₀ L s.heap news → Top p loose mean mg mb h₀ → cs.kind = .function → dp + sz < recursionLimit → un + 8 * sz < cLine →
    (∀ r news' h' tk', Fr h₀ L h' m → News h₀ L h' news' → Post r news' → Q r { s with heap := h', toks := tk' }) →
    wpAny (model prog w) (ktrTop dp un gd cn cs L a ccd cl outer) (call (.ref f) vs) Q E s
theorem big_nonneg (c : Int) : 0 ≤ if -1 - c > c then -1 - c else c := by split <;> omega
set_option maxHeartbeats 8000000 in
theorem pool_tel (prog : Program) (w : World) (news : List (Addr × Obj)) (scr : Addr) (sv : List Value) (ns : List Int) (hI : IntsAre sv ns) (k : Nat) (t1 : Tok) (hk2 : k < 2) (hl : ns.length < 1000) :
  TelS prog w 188 1 scr sv news [.ref scr, .int (k : Int) t1] (fun r nw => ∃ (S : Addr) (n : Nat) (y0 y1 : Int) (u0 u1 : Tok), r = .ref S ∧ nw = (S, srcO y0 y1 u0 u1 n) :: news ∧ SrcOk y0 y1 ∧ (∀ p ∈ news, p.1 < S)) := by
  unfold TelS
  intro p loose mean mg mb dp un gd cn cs a ccd cl outer A₀ base h₀ L m s Q E hS B F X N T hk hdp hun hret
  refine wpAny_call ?_
  k_dflt ktr_enter
  rename Fr _ _ _ (fun y => _) => FX
  obtain ⟨u, FX2⟩ := kst_ex [(Str.ofString "script", .ref scr), (Str.ofString "k", .int (k : Int) t1)] FX (by kst_all)
  clear FX
  dsimp only [kstB] at FX2
  rename Fr h₀ L _ m => FG
  have hS2 := hS.at fun o e => FG.keep _ _ e
  k_with_none
  have hk3 : k = 0 ∨ k = 1 := by omega
  rcases hk3 with rfl | rfl
  · rw [show ((0 : Nat) : Int) = 0 from rfl] at FX2
    walk_at "my steps"
    all_goals
      rename News h₀ L _ _ => kN
      exact hret _ _ _ _ (by k_asm) kN ⟨_, 0, _, _, _, _, rfl, rfl, ⟨by first | exact Int.le_refl 0 | exact big_nonneg _, Int.fmod_nonneg_of_pos _ (by decide), Int.fmod_lt_of_pos _ (by decide)⟩, by assumption⟩
  · rw [show ((1 : Nat) : Int) = 1 from rfl] at FX2
    walk_at "my steps"
    all_goals
      rename News h₀ L _ _ => kN
      exact hret _ _ _ _ (by k_asm) kN ⟨_, 0, _, _, _, _, rfl, rfl, ⟨by first | exact Int.le_refl 0 | exact big_nonneg _, Int.fmod_nonneg_of_pos _ (by decide), Int.fmod_lt_of_pos _ (by decide)⟩, by assumption⟩
theorem fresh_slice : True := by
  w_top off
  k_with_none
  trivial
section
variable {prog : Program} {w : World} {A : Around} {E : Value → Shared → Prop} {s : Shared}
theorem getItem_tup3 {t sl : Addr} {v0 v1 v2 v3 : Value} {u : Tok} {Q : Value → Shared → Prop} (ht : IsTup s.heap t #[v0, v1, v2, v3]) (hs : s.heap.IsSliceOf sl .none (.int 3 u) .none)
    (h : Q (.ref s.heap.objs.size) { s with heap := s.heap.push { cls := .type "tuple", data := .seq #[v0, v1, v2] } }) : wpAny (model prog w) A (getItem (.ref t) (.ref sl)) Q E s := by
  obtain ⟨os, hos, hcs, hds⟩ := id hs
  have hTs : s.TypeIs (.ref sl) "slice" := ⟨os, hos, hcs⟩
  have ap : ∀ {A : Around} {E : Value → Shared → Prop} {R : Int × Int × Nat → Shared → Prop}, R (0, 1, 3) s → wpAny (model prog w) A (Builtin.Slice.sliceApplied (.ref sl) (pure (4 : Int))) R E s := by
    intro A E R hR
    unfold Builtin.Slice.sliceApplied Builtin.Slice.sliceFields
    refine wpAny_bind (wpAny_bind (wpAny_field hos hds (x := .none) rfl (wpAny_bind (wpAny_field hos hds (x := .int 3 u) rfl (wpAny_bind (wpAny_field hos hds (x := .none) rfl (wpAny_pure ?_)))))))
    refine wpAny_bind (slicePart_none ?_)
    show wpAny _ _ (if ((1 : Int) == 0) = true then _ else _) _ _ s
    rw [if_neg (by decide)]
    exact wpAny_bind (slicePart_none (wpAny_bind (slicePart_int (wpAny_bind (wpAny_pure (wpAny_pure hR))))))
  unfold getItem
  try with_reducible refine wpAny_holding ?_
  first | refine wpAny_bind (wpAny_pure ?_) | skip
  refine wpAny_bind (wpAny_sequenceKey ht.typeIs (by decide) ?_)
  refine wpAny_bind (wpAny_callSpecial?_slot (name := Str.ofString "__getitem__") ht.typeIs slot_tuple_getitem
    (wpAny_call_entry slot_tuple_getitem ht.typeIs entry_tuple_getitem ?_ (args_tuple_getitem _ _)))
  show wpAny _ _ (Builtin.Tuple.tupleItemsOf (.ref t) >>= _) _ _ s
  refine wpAny_bind (tupleItemsOf_ ht ?_)
  refine wpAny_bind (wpAny_typeOf hTs ?_)
  rw [if_pos (by decide)]
  refine wpAny_bind (ap ?_)
  have hdrop : sizeOk (.seq #[v0, v1, v2]) := by
    show (3 : Nat) ≤ sizeLine
    unfold sizeLine; omega
  show wpAny _ _ (if ((0 : Int) == 0 && (1 : Int) == 1 && (3 : Nat) == 4) = true then _ else _) _ _ s
  rw [if_neg (by decide)]
  first
    | exact wpAny_bind (m := Builtin.Tuple.tupleExact _) (wpAny_newObj_type (wpAny_pure ⟨_, rfl, wpAny_pure h⟩) hdrop)
    | exact wpAny_bind (m := Builtin.Tuple.tupleExact _) (wpAny_newObj_type (wpAny_bind (wpAny_pure (wpAny_pure ⟨_, rfl, wpAny_pure h⟩))) hdrop)
    | exact wpAny_bind (wpAny_bind (m := Builtin.Tuple.tupleExact _) (wpAny_newObj_type (wpAny_pure (wpAny_pure ⟨_, rfl, wpAny_pure h⟩)) hdrop))
    | exact wpAny_bind (wpAny_bind (m := Builtin.Tuple.tupleExact _) (wpAny_newObj_type (wpAny_pure ⟨_, rfl, wpAny_pure h⟩) hdrop))
end
theorem fresh_elts : True := by
  w_top off
  k_with_none
  trivial
section
variable {prog : Program} {w : World} {A : Around} {E : Value → Shared → Prop} {s : Shared} {env : Env} {scope : Scope} {C a : Addr} {x : Str} {m : Str → Option Value} {v0 v1 v2 v3 : Value} {Q : Value → Shared → Prop}
theorem elt_1 {p1 p2 p3 : Pos} {k : Nat} (hkind : scope.kind = .function) (hx : scope.names.lookup x = some .local) (hd : (x == ("__debug__" : Str)) = false) (hn : s.heap.Ns C m) (hm : m x = some (.ref a)) (ht : IsTup s.heap a #[v0, v1, v2, v3]) (h : ∀ tk, Q v1 { s with toks := tk }) :
    wpAny (model prog w) A (eval (.Subscript (.Name x p1) (.Constant (.int 1) k p2) p3) (compEnv scope C env)) Q E s := by
  refine Subscript_ (wpAny_Name (wpAny_loadName_local (env := compEnv scope C env) hkind hx hn hm ?_) hd)
  refine wpAny_Constant_int ?_
  exact item_tuple (j := 1) (x := v1) (s := { s with toks := _ }) ht (by decide) (by decide) (by rfl) rfl (h _)
theorem elt_3 {p1 p2 p3 p4 : Pos} {k : Nat} (hkind : scope.kind = .function) (hx : scope.names.lookup x = some .local) (hd : (x == ("__debug__" : Str)) = false) (hn : s.heap.Ns C m) (hm : m x = some (.ref a)) (ht : IsTup s.heap a #[v0, v1, v2, v3])
    (h : ∀ T h' tk, s.heap.get? T = none → IsTup h' T #[v0, v1, v2] → (∀ b o, s.heap.get? b = some o → h'.get? b = some o) → Q (.ref T) { s with heap := h', toks := tk }) :
    wpAny (model prog w) A (eval (.Subscript (.Name x p1) (.Slice none (some (.Constant (.int 3) k p2)) none p4) p3) (compEnv scope C env)) Q E s := by
  refine Subscript_ (wpAny_Name (wpAny_loadName_local (env := compEnv scope C env) hkind hx hn hm ?_) hd)
  refine wpAny_Slice ?_
  rw [evalPart_none, evalPart_some]
  refine wpAny_pure (wpAny_Constant_int (wpAny_pure ?_))
  have ht' : IsTup (s.heap.push { cls := .type "slice", data := .fields #[.none, .int 3 s.toks, .none] }) a #[v0, v1, v2, v3] := ht.keeps fun _ _ e => Heap.get?_push_of_some _ e
  refine subscriptTail_ops (s := { s with heap := s.heap.push { cls := .type "slice", data := .fields #[.none, .int 3 s.toks, .none] }, toks := s.toks + 1 }) ht'.typeIs slot_tuple_getitem.lookup
    (getItem_tup3 ht' (Heap.IsSliceOf.new ..) ?_) (ops := [.ref s.heap.objs.size, .ref a]) (by with_unfolding_all rfl) (by intro _; with_unfolding_all rfl)
  refine h _ _ _ ?_ ⟨_, Heap.get?_push_size _ rfl, rfl, _, rfl⟩ (fun b o e => Heap.get?_push_of_some _ (Heap.get?_push_of_some _ e))
  cases e : s.heap.get? (s.heap.push { cls := .type "slice", data := .fields #[.none, .int 3 s.toks, .none] }).objs.size with
  | none => rfl
  | some o => have := Heap.lt_size e; rw [Heap.size_push] at this; exact absurd this (Nat.not_lt.mpr (Nat.le_succ _))
end
theorem fresh_comp : True := by
  w_top off
  k_with_none
  trivial
section
variable {prog : Program} {w : World} {A : Around} {s : Shared} {env : Env}
theorem wpC_isTrue_Compare {M : Model} {left r : Expr} {op : CmpOp} {pos : Pos} {t : Sem Value} {Q : Bool → Shared → Prop}
    (h : wpC M A (eval left env) (fun a s₁ => wpAny M A (eval r env) (fun b s₂ => wpAny M A (compareOp op a b) (fun c s₃ => wpAny M A (truthy c) Q nev s₃) nev s₂) nev s₁) s)
    (hm : lastMarks [op] [r] = false := by with_unfolding_all rfl) : wpC M A (isTrue (.Compare left [op] [r] pos) env t) Q s := by
  show wpC M A (do testChain pos (← eval left env) [op] (markedEach [op] [r] (evalEach [r] env))) Q s
  rw [markedEach_of_false _ _ _ hm]
  exact wpC_bind (wpC_mono h fun v s₁ x => wpC_of (test_last x))
/-- the source ahead, the rest behind it -/
theorem wpC_ListComp {elt iter : Expr} {x : Str} {px : Pos} {scope : Scope} {pos : Pos} {Q : Value → Shared → Prop}
    (h : wpC (model prog w) A (eval iter env) (fun v s₁ => wpAny (model prog w) A (comprehension (.ListComp elt [⟨.Name x px, iter, [], 0⟩] scope pos) scope env (firstIterPos [⟨.Name x px, iter, [], 0⟩] pos) (newList []) false (pure v)) Q nev s₁) s) :
    wpC (model prog w) A (eval (.ListComp elt [⟨.Name x px, iter, [], 0⟩] scope pos) env) Q s := by
  have e : eval (.ListComp elt [⟨.Name x px, iter, [], 0⟩] scope pos) env = eval iter env >>= fun v => comprehension (.ListComp elt [⟨.Name x px, iter, [], 0⟩] scope pos) scope env (firstIterPos [⟨.Name x px, iter, [], 0⟩] pos) (newList []) false (pure v) := by
    rw [eval_ListComp]
    rfl
  rw [e]
  exact wpC_bind (wpC_mono h fun v s₁ x => wpC_of x)
end
/-- where a comprehension over a list begins: I its iterator, D the list that it makes, C its names -/
structure CompPl (h : Heap) (ax : Addr) (items : Array Value) (I D C : Addr) (h₁ : Heap) (m : Str → Option Value) : Prop where
  DI : D ≠ I
  DC : D ≠ C
  IC : I ≠ C
  below : ∀ b, b < h.objs.size → b ≠ C ∧ b ≠ I ∧ b ≠ D
  old : ∀ b o, h.get? b = some o → h₁.get? b = some o
  it : h₁.IsListIter I ax 0
  acc : h₁.IsList D #[]
  ns : h₁.Ns C m
  fresh : h.get? D = none
section
variable {prog : Program} {w : World} {A : Around} {s : Shared} {env : Env}
theorem comp_set {elt iter : Expr} {x : Str} {px : Pos} {scope : Scope} {pos cpos : Pos} {Q : Value → Shared → Prop} {ax : Addr} {items : Array Value} (hl : s.heap.IsList ax items)
    (hfree : ∀ y ∈ scope.names, y.2 ≠ .free) (hcell : ∀ y ∈ scope.names, y.2 ≠ .cell) (hkind : scope.kind = .function) (hnames : ∀ y ∈ scope.names, y.2 = .local → scope.names.lookup y.1 = some .local)
    (h : ∀ I D C h₁ m tk, CompPl s.heap ax items I D C h₁ m → codeAny (model prog w) A (.compLoop (.ListComp elt [⟨.Name x px, iter, [], 0⟩] scope pos) 0 (.ref I) (.ref D) (compEnv scope C env))
      (fun r s' => ∃ m, s'.heap.Ns C m ∧ match r with | .ok _ => (∀ h', Heap.SameBut C s'.heap h' → Q (.ref D) { s' with heap := h' }) | .error _ => False) { s with heap := h₁, toks := tk })
    (hs : ∀ x, foldedSetIterable iter env x = pure x := by intro _; rfl) :
    wpAny (model prog w) A (comprehension (.ListComp elt [⟨.Name x px, iter, [], 0⟩] scope pos) scope env cpos (newList []) false (pure (.ref ax))) Q nev s := by
  refine wpAny_comprehension rfl hs hfree hkind hnames (wpAny_pure (wpAny_pyIter_list hl (wpAny_newObj_type (hd := by size_fits) (wpAny_newFunctionEnv hcell (by intro y hy; simp at hy) (fun h₁ hns hsb => ?_) hkind))))
  dsimp only at hns hsb ⊢
  generalize hH1 : s.heap.push { cls := .type "list_iterator", data := .fields #[.ref ax, .int 0 0] } = H1 at hns hsb ⊢
  generalize hH2 : H1.push { cls := .type "list", dict := none, data := .seq ([] : List Value).toArray } = H2 at hns hsb ⊢
  have n1 : H1.objs.size = s.heap.objs.size + 1 := by rw [← hH1, Heap.size_push]
  have n2 : H2.objs.size = s.heap.objs.size + 1 + 1 := by rw [← hH2, Heap.size_push, n1]
  have up1 : ∀ b o, s.heap.get? b = some o → H2.get? b = some o := fun b o e => hH2 ▸ Heap.get?_push_of_some _ (hH1 ▸ Heap.get?_push_of_some _ e)
  have bl : ∀ b, b < s.heap.objs.size → b ≠ H2.objs.size ∧ b ≠ s.heap.objs.size ∧ b ≠ H1.objs.size := fun b hb => by
    rw [n2, n1]
    exact ⟨Nat.ne_of_lt (Nat.lt_of_lt_of_le hb (Nat.le_trans (Nat.le_succ _) (Nat.le_succ _))), Nat.ne_of_lt hb, Nat.ne_of_lt (Nat.lt_succ_of_lt hb)⟩
  have k1 : s.heap.objs.size ≠ H2.objs.size := by rw [n2]; exact Nat.ne_of_lt (Nat.lt_succ_of_lt (Nat.lt_succ_self _))
  have k2 : H1.objs.size ≠ H2.objs.size := by rw [n2, n1]; exact Nat.ne_of_lt (Nat.lt_succ_self _)
  have P : CompPl s.heap ax items s.heap.objs.size H1.objs.size H2.objs.size h₁ _ := {
    DI := by rw [n1]; exact Nat.succ_ne_self _
    DC := k2
    IC := k1
    below := bl
    old := fun b o e => hsb.extBut b o (bl b (Heap.lt_size e)).1 (Heap.get?_push_of_some _ (up1 b o e))
    it := ⟨_, hsb.extBut _ _ k1 (Heap.get?_push_of_some _ (hH2 ▸ Heap.get?_push_of_some _ (hH1 ▸ Heap.get?_push_size _ rfl))), rfl, rfl⟩
    acc := ⟨_, hsb.extBut _ _ k2 (Heap.get?_push_of_some _ (hH2 ▸ Heap.get?_push_size _ rfl)), rfl, _, rfl⟩
    ns := hns
    fresh := by
      cases e : s.heap.get? H1.objs.size with
      | none => rfl
      | some o => have := Heap.lt_size e; rw [n1] at this; exact absurd this (Nat.not_lt.mpr (Nat.le_succ _)) }
  have lp := codeAny_mono (h _ _ _ _ _ (s.toks + ([] : List (Str × Value)).length) P) (R' := fun r s' => ∃ m, s'.heap.Ns H2.objs.size m ∧ ∀ h', Heap.SameBut H2.objs.size s'.heap h' →
      match r with | .ok _ => Q (.ref H1.objs.size) { s' with heap := h' } | .error x => wpAny (model prog w) A (passOn "comprehension.variables-let-go" x (compEnv scope H2.objs.size env)) Q nev { s' with heap := h' }) (by
    rintro r s' ⟨m, hn, hr⟩
    refine ⟨m, hn, fun h' hh => ?_⟩
    cases r with
    | ok _ => exact hr h' hh
    | error _ => exact hr.elim)
  exact codeAny_compStart_list lp (wpAny_pyIter_listiter P.it lp)
end
theorem fresh_comp2 : True := by
  w_top off
  k_with_none
  trivial
theorem filt_true {α : Type} (l : List α) : l.filter (fun _ => true) = l := List.filter_eq_self.mpr fun _ _ => rfl
theorem paired_1 {h : Heap} : ∀ {rs : List Rw} {l : List Value}, (∀ r ∈ rs, h.get? r.a = some r.obj) → Paired (fun v y => ∀ r : Rw, v = r.ref → h.get? r.a = some r.obj → y = .str r.told r.u2) (rs.map Rw.ref) l → l = rs.map (fun r => Value.str r.told r.u2)
  | [], _, _, .nil => rfl
  | r :: rs, _, hc, .cons e t => by
    rw [List.map_cons, ← paired_1 (fun r hr => hc r (.tail _ hr)) t, e r rfl (hc r (.head _))]
theorem paired_3 {h h' : Heap} : ∀ {rs : List Rw} {l : List Value}, (∀ r ∈ rs, h.get? r.a = some r.obj) → Paired (TupIs (fun v vs => ∀ r : Rw, v = r.ref → h.get? r.a = some r.obj → vs = #[.str r.kd r.u1, .str r.told r.u2, .int r.pos r.u3]) h') (rs.map Rw.ref) l →
    ∃ as, ReadsAll h' l (rs.map (fun r => PyData.tuple [.str r.kd, .str r.told, .int r.pos])) as
  | [], _, _, .nil => ⟨_, .nil⟩
  | r :: rs, _, hc, .cons e t => by
    obtain ⟨as, ra⟩ := paired_3 (fun r hr => hc r (.tail _ hr)) t
    obtain ⟨T, vs, rfl, ⟨o, ho, hcl, n, hd⟩, hG⟩ := e
    have hv := hG r rfl (hc r (.head _))
    subst hv
    exact ⟨_, .cons (reads_tuple_at ho hcl hd (.cons (.str _ _) (.cons (.str _ _) (.cons (.int _ _) .nil)))) ra⟩
section
variable {prog : Program} {w : World} {A : Around} {s : Shared} {env : Env}
theorem keeps_rfl (s : Shared) (tk : Nat) : Keeps s { s with toks := tk } := ⟨s.heap, tk, rfl, fun _ _ e => e⟩
theorem rw_inj {h : Heap} {r r' : Rw} (e : r.ref = r'.ref) (h1 : h.get? r.a = some r.obj) (h2 : h.get? r'.a = some r'.obj) : r.kd = r'.kd ∧ r.u1 = r'.u1 ∧ r.told = r'.told ∧ r.u2 = r'.u2 ∧ r.pos = r'.pos ∧ r.u3 = r'.u3 := by
  have ea : r.a = r'.a := by
    have : (Value.ref r.a) = .ref r'.a := e
    injection this
  rw [ea, h2] at h1
  have h3 : r'.obj = r.obj := Option.some.inj h1
  unfold Rw.obj tupO at h3
  injection h3 with _ _ h4 _
  injection h4 with h5 _
  injection h5 with h6
  injection h6 with a1 h6
  injection h6 with a2 h6
  injection h6 with a3 h6
  injection a1 with b1 b2
  injection a2 with b3 b4
  injection a3 with b5 b6
  exact ⟨b1.symm, b2.symm, b3.symm, b4.symm, b5.symm, b6.symm⟩
theorem comp_1 {iter : Expr} {x : Str} {px p1 p2 p3 : Pos} {k : Nat} {scope : Scope} {pos cpos : Pos} {Q : Value → Shared → Prop} {ax : Addr} {rs : List Rw} (hl : s.heap.IsList ax (rs.map Rw.ref).toArray) (hc : ∀ r ∈ rs, s.heap.get? r.a = some r.obj) (hlen : rs.length ≤ 100000) (hh : A.handled = none)
    (hfree : ∀ y ∈ scope.names, y.2 ≠ .free) (hcell : ∀ y ∈ scope.names, y.2 ≠ .cell) (hkind : scope.kind = .function) (hnames : ∀ y ∈ scope.names, y.2 = .local → scope.names.lookup y.1 = some .local) (hx : scope.names.lookup x = some .local) (hd : (x == ("__debug__" : Str)) = false)
    (h : ∀ D h' tk, s.heap.get? D = none → h'.IsList D (rs.map (fun r => Value.str r.told r.u2)).toArray → (∀ b o, s.heap.get? b = some o → h'.get? b = some o) → Q (.ref D) { s with heap := h', toks := tk })
    (hs : ∀ x, foldedSetIterable iter env x = pure x := by intro _; rfl) :
    wpAny (model prog w) A (comprehension (.ListComp (.Subscript (.Name x p1) (.Constant (.int 1) k p2) p3) [⟨.Name x px, iter, [], 0⟩] scope pos) scope env cpos (newList []) false (pure (.ref ax))) Q nev s := by
  refine comp_set hl hfree hcell hkind hnames (fun I D C h₁ m tk P => ?_) hs
  obtain ⟨ol, hol, hol'⟩ := id hl
  have hax := P.below ax (Heap.lt_size hol)
  have up : ∀ b o, s.heap.get? b = some o → ∀ {h2 : Heap}, (∀ b o, b ≠ C → b ≠ I → b ≠ D → h₁.get? b = some o → h2.get? b = some o) → h2.get? b = some o := fun b o e h2 hk =>
    hk b o (P.below b (Heap.lt_size e)).1 (P.below b (Heap.lt_size e)).2.1 (P.below b (Heap.lt_size e)).2.2 (P.old b o e)
  refine codeAny_compLoop_map (cenv := compEnv scope C env) (items := (rs.map Rw.ref).toArray) (fun _ => true) (fun v y => ∀ r : Rw, v = r.ref → s.heap.get? r.a = some r.obj → y = .str r.told r.u2) hh hx (by simp [compEnv, hkind]) P.DI P.DC P.IC hax.2.1 hax.1 hax.2.2 P.it ⟨ol, P.old _ _ hol, hol'⟩ P.acc P.ns
    (fun v s₂ m₂ hv hn hm hk => wpAny_tests_nil ⟨rfl, keeps_rfl s₂ s₂.toks⟩) (fun v s₂ m₂ hv _ hn hm hk => ?_) (fun h' tk m' ys hn ha hF hk => ⟨m', hn, fun h'' hs'' => ?_⟩) (by rw [List.size_toArray, List.length_map]; exact Nat.le_trans hlen (by decide))
  · obtain ⟨r, hr, rfl⟩ : ∃ r ∈ rs, r.ref = v := List.mem_map.mp (by simpa using hv)
    have ho := up _ _ (hc r hr) hk
    refine elt_1 hkind hx hd hn hm ⟨_, ho, rfl, _, rfl⟩ (fun tk => ⟨fun r' e h2 => ?_, keeps_rfl s₂ tk⟩)
    obtain ⟨_, _, e3, e4, _, _⟩ := rw_inj e (hc r hr) h2
    rw [e3, e4]
  · have hy : ys = (rs.map (fun r => Value.str r.told r.u2)).toArray := by
      have := paired_1 (h := s.heap) (l := ys.toList) hc (by rw [filt_true] at hF; simpa using hF)
      rw [← this]
    subst hy
    exact h D h'' tk P.fresh (ha.extBut hs''.extBut P.DC) (fun b o e => hs''.extBut b o (P.below b (Heap.lt_size e)).1 (up b o e hk))
theorem comp_3 {iter : Expr} {x : Str} {px p1 p2 p3 p4 : Pos} {k : Nat} {scope : Scope} {pos cpos : Pos} {Q : Value → Shared → Prop} {ax : Addr} {rs : List Rw} (hl : s.heap.IsList ax (rs.map Rw.ref).toArray) (hc : ∀ r ∈ rs, s.heap.get? r.a = some r.obj) (hlen : rs.length ≤ 100000) (hh : A.handled = none)
    (hfree : ∀ y ∈ scope.names, y.2 ≠ .free) (hcell : ∀ y ∈ scope.names, y.2 ≠ .cell) (hkind : scope.kind = .function) (hnames : ∀ y ∈ scope.names, y.2 = .local → scope.names.lookup y.1 = some .local) (hx : scope.names.lookup x = some .local) (hd : (x == ("__debug__" : Str)) = false)
    (h : ∀ D h' tk as, s.heap.get? D = none → Reads h' (.ref D) (.list (rs.map (fun r => PyData.tuple [.str r.kd, .str r.told, .int r.pos]))) as → (∀ b o, s.heap.get? b = some o → h'.get? b = some o) → Q (.ref D) { s with heap := h', toks := tk })
    (hs : ∀ x, foldedSetIterable iter env x = pure x := by intro _; rfl) :
    wpAny (model prog w) A (comprehension (.ListComp (.Subscript (.Name x p1) (.Slice none (some (.Constant (.int 3) k p2)) none p4) p3) [⟨.Name x px, iter, [], 0⟩] scope pos) scope env cpos (newList []) false (pure (.ref ax))) Q nev s := by
  refine comp_set hl hfree hcell hkind hnames (fun I D C h₁ m tk P => ?_) hs
  obtain ⟨ol, hol, hol'⟩ := id hl
  have hax := P.below ax (Heap.lt_size hol)
  have up : ∀ b o, s.heap.get? b = some o → ∀ {h2 : Heap}, (∀ b o, b ≠ C → b ≠ I → b ≠ D → h₁.get? b = some o → h2.get? b = some o) → h2.get? b = some o := fun b o e h2 hk =>
    hk b o (P.below b (Heap.lt_size e)).1 (P.below b (Heap.lt_size e)).2.1 (P.below b (Heap.lt_size e)).2.2 (P.old b o e)
  refine codeAny_compLoop_tup (cenv := compEnv scope C env) (items := (rs.map Rw.ref).toArray) (fun _ => true) (fun v vs => ∀ r : Rw, v = r.ref → s.heap.get? r.a = some r.obj → vs = #[.str r.kd r.u1, .str r.told r.u2, .int r.pos r.u3]) hh hx (by simp [compEnv, hkind]) P.DI P.DC P.IC hax.2.1 hax.1 hax.2.2 P.it ⟨ol, P.old _ _ hol, hol'⟩ P.acc P.ns
    (fun v s₂ m₂ hv hn hm hk => wpAny_tests_nil ⟨rfl, keeps_rfl s₂ s₂.toks⟩) (fun v s₂ m₂ hv _ hn hm hk => ?_) (fun h' tk m' ys hn ha hF hk => ⟨m', hn, fun h'' hs'' => ?_⟩) (by rw [List.size_toArray, List.length_map]; exact Nat.le_trans hlen (by decide))
  · obtain ⟨r, hr, rfl⟩ : ∃ r ∈ rs, r.ref = v := List.mem_map.mp (by simpa using hv)
    have ho := up _ _ (hc r hr) hk
    refine elt_3 hkind hx hd hn hm ⟨_, ho, rfl, _, rfl⟩ (fun T h9 tk hT ht9 hk9 => ⟨⟨T, _, rfl, hT, ht9, fun r' e h2 => ?_⟩, h9, tk, rfl, hk9⟩)
    obtain ⟨e1, e2, e3, e4, e5, e6⟩ := rw_inj e (hc r hr) h2
    rw [e1, e2, e3, e4, e5, e6]
  · obtain ⟨as, ra⟩ := paired_3 (h := s.heap) (h' := h'') (l := ys.toList) hc (by
      have := hF.mono (F' := TupIs (fun v vs => ∀ r : Rw, v = r.ref → s.heap.get? r.a = some r.obj → vs = #[.str r.kd r.u1, .str r.told r.u2, .int r.pos r.u3]) h'') fun v y hy => (hy.keep fun b o hbC _ _ e => hs''.extBut b o hbC e).plain
      rw [filt_true] at this
      simpa using this)
    obtain ⟨oD, hoD, hcD, nD, hdD⟩ := ha.extBut hs''.extBut P.DC
    exact h D h'' tk _ P.fresh (reads_list_at hoD hcD hdD ra) (fun b o e => hs''.extBut b o (P.below b (Heap.lt_size e)).1 (up b o e hk))
end
theorem fresh_first : True := by
  w_top off
  k_with_none
  trivial
/-! the law's first text -/
def text1 : Str := Str.ofString "fallthrough\n}\n"
def us1 : List U := [.word (Str.ofString "keyword") (Str.ofString "fallthrough") true, .ws 10, .word (Str.ofString "sign") (Str.ofString "}") true, .ws 10]
theorem at1 : AtU text1 0 us1 := ⟨[], by decide +kernel, rfl⟩
theorem ok1 : okU us1 := ⟨wOk_of (by decide +kernel), .inr ⟨_, _, rfl⟩, by decide, wOk_of (by decide +kernel), .inr ⟨_, _, rfl⟩, by decide, trivial⟩
theorem wd1 : ∀ kd t e, U.word kd t e ∈ us1 → (kd, t, e) ∈ WORDS := by
  intro kd t e h
  simp only [us1, List.mem_cons, U.word.injEq, List.not_mem_nil, or_false, reduceCtorEq, false_or] at h
  rcases h with ⟨rfl, rfl, rfl⟩ | ⟨rfl, rfl, rfl⟩ <;> decide +kernel
theorem len1 : text1.length < 100000 := by decide +kernel
theorem told1 : (rowsF 0 none false us1).map (fun x => x.2.1) = [Str.ofString "fallthrough", Str.ofString ";", Str.ofString "}", Str.ofString ";", Str.ofString ""] := by decide +kernel
theorem reads_strs {α : Type} {h : Heap} {f : α → Str} {g : α → Tok} : ∀ {rs : List α}, ∃ as, ReadsAll h (rs.map (fun r => Value.str (f r) (g r))) ((rs.map f).map PyData.str) as
  | [] => ⟨_, .nil⟩
  | r :: rs => by
    obtain ⟨as, ra⟩ := reads_strs (h := h) (f := f) (g := g) (rs := rs)
    exact ⟨_, .cons (.str _ _) ra⟩
theorem told_rs {rs : List Rw} (h : rs.map Rw.dat = rowsF 0 none false us1) : rs.map (fun r => r.told) = [Str.ofString "fallthrough", Str.ofString ";", Str.ofString "}", Str.ofString ";", Str.ofString ""] := by
  rw [← told1, ← h, List.map_map]
  rfl
def dataT : PyData := .list ([Str.ofString "fallthrough", Str.ofString ";", Str.ofString "}", Str.ofString ";", Str.ofString ""].map PyData.str)
theorem dataT_ok : SeqAt.shaped dataT = true ∧ PyData.eqv dataT dataT = true := by decide +kernel
theorem nw_new {h₀ h h' : Heap} {L D : Addr} {m : Str → Option Value} {news : List (Addr × Obj)} {o : Obj} (F : Fr h₀ L h m) (N : News h₀ L h news) (hk : ∀ b o, h.get? b = some o → h'.get? b = some o) (hf : h.get? D = none) (ho : h'.get? D = some o) : News h₀ L h' ((D, o) :: news) := by
  intro p hp
  rcases List.mem_cons.mp hp with rfl | hp
  · refine ⟨ho, ?_, ?_⟩
    · obtain ⟨oL, _, _, hL, _⟩ := F.ns
      exact ne_of_none_some hf hL
    · cases e : h₀.get? D with
      | none => rfl
      | some o' => rw [F.keep _ _ e] at hf; cases hf
  · exact ⟨hk _ _ (N p hp).1, (N p hp).2⟩
theorem fr_keeps {h₀ h h' : Heap} {L : Addr} {m : Str → Option Value} (F : Fr h₀ L h m) (hk : ∀ b o, h.get? b = some o → h'.get? b = some o) : Fr h₀ L h' m := ⟨F.ns.at' fun o e => hk _ o e, fun b o e => hk b o (F.keep b o e), F.above⟩
theorem reads_told {rs : List Rw} (hrs : rs.map Rw.dat = rowsF 0 none false us1) (h : Heap) : ∃ as, ReadsAll h (rs.map (fun r => Value.str r.told r.u2)).toArray.toList ([Str.ofString "fallthrough", Str.ofString ";", Str.ofString "}", Str.ofString ";", Str.ofString ""].map PyData.str) as := by
  obtain ⟨as, ra⟩ := reads_strs (h := h) (f := fun r : Rw => r.told) (g := fun r => r.u2) (rs := rs)
  rw [told_rs hrs] at ra
  exact ⟨as, ra⟩
theorem fresh_data : True := by
  w_top off
  k_with_none
  trivial
theorem words_strok : ∀ w ∈ WORDS, PyData.strOk w.1 = true ∧ PyData.strOk w.2.1 = true := by decide +kernel
theorem semi_ok {b : Option Int} {prev : Bool} : ∀ x ∈ semi b prev, PyData.strOk x.1 = true ∧ PyData.strOk x.2.1 = true := by
  intro x hx
  unfold semi at hx
  split at hx
  · split at hx
    · rcases List.mem_singleton.mp hx with rfl
      exact ⟨by show PyData.strOk (Str.ofString "sign") = true; decide +kernel, by show PyData.strOk (Str.ofString ";") = true; decide +kernel⟩
    · cases hx
  · cases hx
theorem rowsF_ok : ∀ {us : List U} {k : Int} {b : Option Int} {prev : Bool}, (∀ kd t e, U.word kd t e ∈ us → (kd, t, e) ∈ WORDS) → ∀ x ∈ rowsF k b prev us, PyData.strOk x.1 = true ∧ PyData.strOk x.2.1 = true
  | [], k, b, prev, _, x, hx => by
    rcases List.mem_append.mp hx with hx | hx
    · exact semi_ok x hx
    · rcases List.mem_singleton.mp hx with rfl
      exact ⟨by show PyData.strOk (Str.ofString "end") = true; decide +kernel, by show PyData.strOk (Str.ofString "") = true; decide +kernel⟩
  | u :: us, k, b, prev, h, x, hx => by
    have ht : ∀ kd t e, U.word kd t e ∈ us → (kd, t, e) ∈ WORDS := fun kd t e hm => h kd t e (.tail _ hm)
    cases u with
    | word kd t e =>
      rcases List.mem_append.mp (show x ∈ semi b prev ++ (kd, t, k) :: rowsF (k + (t.length : Int)) none e us from hx) with hx | hx
      · exact semi_ok x hx
      · rcases List.mem_cons.mp hx with rfl | hx
        · exact words_strok _ (h kd t e (.head _))
        · exact rowsF_ok ht x hx
    | _ => exact rowsF_ok (us := us) ht x hx
def rowD (x : Str × Str × Int) : Dat := .tuple [.str x.1, .str x.2.1, .int x.2.2]
def rowP (x : Str × Str × Int) : PyData := .tuple [.str x.1, .str x.2.1, .int x.2.2]
theorem kqdPs_map : ∀ l : List (Str × Str × Int), kqdPs (l.map rowD) = l.map rowP
  | [] => rfl
  | x :: l => by
    rw [List.map_cons, List.map_cons, kqdPs, kqdPs_map l]
    rfl
theorem rows_shaped {l : List (Str × Str × Int)} (h : ∀ x ∈ l, PyData.strOk x.1 = true ∧ PyData.strOk x.2.1 = true) : SeqAt.shaped (.list (l.map rowP)) = true ∧ PyData.eqv (.list (l.map rowP)) (.list (l.map rowP)) = true := by
  have hk : kqdOk 9 (.list (l.map rowD)) = true := by
    have : ∀ d ∈ l.map rowD, kqdOk 8 d = true := by
      intro d hd
      obtain ⟨x, hx, rfl⟩ := List.mem_map.mp hd
      obtain ⟨h1, h2⟩ := h x hx
      simp [rowD, kqdOk, h1, h2]
    exact List.all_eq_true.mpr this
  have e : kqdP (.list (l.map rowD)) = .list (l.map rowP) := by rw [kqdP, kqdPs_map]
  have hl := kqd_lay 9 _ hk
  have hq := (kqd_eqv 9 _ _ 9 hk hk).mpr rfl
  rw [e] at hl hq
  refine ⟨?_, hq⟩
  unfold SeqAt.shaped
  rw [hl.1, Bool.true_and]
  exact decide_eq_true (Nat.le_trans hl.2 (by decide))
theorem reads_r3 {h : Heap} : ∀ {rs : List R3}, (∀ r ∈ rs, h.get? r.a = some r.cell.2) → ∃ as, ReadsAll h (rs.map R3.ref) ((rs.map R3.dat).map rowP) as
  | [], _ => ⟨_, .nil⟩
  | r :: rs, hc => by
    obtain ⟨as, ra⟩ := reads_r3 (fun r hr => hc r (.tail _ hr))
    exact ⟨_, .cons (reads_tuple_at (hc r (.head _)) rfl rfl (.cons (.str _ _) (.cons (.str _ _) (.cons (.int _ _) .nil)))) ra⟩
theorem rng_bound (n : Nat) : ∃ N : Nat, N ≤ 2 ∧ (if (if 2 < (n : Int) then 2 else (n : Int)) > 1 then if 2 < (n : Int) then 2 else (n : Int) else 1) = (N : Int) := by
  by_cases h1 : 2 < (n : Int)
  · exact ⟨2, by omega, by simp [h1]⟩
  · by_cases h2 : (n : Int) > 1
    · exact ⟨n, by omega, by simp [h1, h2]⟩
    · exact ⟨1, by omega, by simp [h1, h2]⟩
theorem TelS.use {prog : Program} {w : World} {f : Addr} {sz : Nat} {scr : Addr} {sv : List Value} {news : List (Addr × Obj)} {vs : List Value} {Post : Value → List (Addr × Obj) → Prop}
  {p : Program} {loose : List Str} {mean : ExcName → Option Value} {mg mb : Str → Option Value}
  {dp un : Nat} {gd : Option (List Code)} {cn : Str} {cs : Scope} {a : Addr} {ccd : Value} {cl : List (Str × Addr)} {outer : List Env} {A₀ : Around} {base h₀ : Heap} {L : Addr} {m : Str → Option Value} {s : Shared} {Q E : Value → Shared → Prop}
  (C : TelS prog w f sz scr sv news vs Post) (hS : h₀.IsList scr sv.toArray) (B : Below A₀ base outer h₀) (F : Fr h₀ L s.heap m) (X : (K9 w.params).In h₀) (N : News h₀ L s.heap news) (T : Top p loose mean mg mb h₀) (hk : cs.kind = .function)
    (hdp : dp + sz < recursionLimit) (hun : un + 8 * sz < cLine)
    (ret : ∀ r news' h' tk', Fr h₀ L h' m → News h₀ L h' news' → Post r news' → Q r { s with heap := h', toks := tk' }) :
    wpAny (model prog w) (ktrTop dp un gd cn cs L a ccd cl outer) (call (.ref f) vs) Q E s :=
  C _ _ _ _ _ _ _ _ _ _ _ _ _ _ _ _ _ _ _ _ _ _ hS B F X N T hk hdp hun ret
theorem fresh_law : True := by
  w_top off
  k_with_none
  trivial
theorem enter_callC {M : Model} {A : Around} {s : Shared} {f : Value} {pos : List Value} {kw : List (Str × Value)} {c : ClaimW} {cl : Str → Option Addr} {mean : ExcName → Option Value} {args : List WData} {s₁ : Shared}
    (h : codeC M A (.call f ⟨pos, kw⟩) (fun r s' => match r with | .ok (.ret v) => GoodW c cl mean args s₁ (.ok (.ret v)) s' | _ => False) s) : wpC M A (PySem.call f pos kw) (fun v s' => GoodWG c cl mean args s₁ (.ok (.ret v)) s') s :=
  wpC_call (codeC_mono h fun r s' g => by
    cases r with
    | error e => exact g
    | ok f => cases f <;> first | exact GoodW.toG g | exact g)
theorem call_fullC {prog : Program} {w : World} {A : Around} {R : Result → Shared → Prop} {s : Shared} {name : Str} {params : Arguments} {body : List Stmt} {scope : Scope}
    {dV kV pm cd doc : Value} {a : Addr} {o : Obj} {args : Args} {binds : List (Str × Value)}
    (hroom : A.depth < recursionLimit) (ho : s.heap.get? a = some o) (hdata : o.data = .func { docDef name params body scope pm cd doc with defaults := dV, kwdefaults := kV }) (hlim : s.heap.NoLimit) (hcd : s.heap.CodeRec cd name)
    (hbind : BindsTo s { docDef name params body scope pm cd doc with defaults := dV, kwdefaults := kV } args binds)
    (hloc : ∀ x ∈ binds, scope.names.lookup x.1 = some .local)
    (h : ∀ h₁, Fr s.heap s.heap.objs.size h₁ (fun x => binds.reverse.lookup x) →
      wpC (model prog w) (A.deeper (envOf name scope s.heap.objs.size a cd)) (execs body (envOf name scope s.heap.objs.size a cd))
        (fun f s' => R (.ok (.ret (match f with | .ret v => v | _ => .none))) s')
        { s with heap := h₁, toks := s.toks + binds.length })
    (hco : scope.isCoroutine = false := by rfl) (hgen : scope.isGenerator = false := by rfl) (hk : scope.kind = .function := by rfl)
    (hcell : ∀ x ∈ scope.names, x.2 ≠ .cell := by decide) :
    codeC (model prog w) A (.call (.ref a) args) R s :=
  codeC_call_def hroom ho hdata hlim hcd rfl hbind hcell hloc (fun h₁ hns hkeep => h h₁ ⟨hns, hkeep, Nat.le_refl _⟩) hco hgen hk
set_option maxHeartbeats 8000000 in
theorem law_goal : PySem.Challenge.rw_on0021_01.Holds := hd (by
  k_fill
  intro w s₀ s₁ mg mb G Y fa o pm cd doc dV kV ho hdd hcd hD hmg hg args vals as hpre hlay hrd hwl hlo
  have KX := kIn_of Y
  have X := (Ground.X G).1
  have V := (Ground.X G).2
  refine Ground.open G ?_
  intro T B D TE TW
  try (refine guard_noD D (by decide +kernel) ?_; clear D)
  obtain ⟨_, _, M⟩ := bmod_of_top T
  clear hmg
  wrow_args hpre hlay hrd hwl hlo
  all_goals (
    refine enter_callC ?_
    have he := Dflts.none hD rfl
    subst he
    refine call_fullC (by decide) ho hdd (Top.nolimit T) hcd (BindsTo.of_eq rfl) (locs rfl) fun h₁ F => ?_
    w_binds F
    have N0 := (News.nil : News _ _ _ []).at F
    clear hdd)
  have K0 : Below callerA s₁.heap [] s₁.heap := below_caller (Top.heap T)
  rename_i ns e1 e2 e3 e4 e5 q1 q2 scr sv q3 hS ra w1 r0 hI hr9 hcond hc2
  have hI' : IntsAre sv ns := hI
  have hS' : s₁.heap.IsList scr sv.toArray := hS
  have hle : ns.length ≤ 63 := by omega
  obtain ⟨u, FX⟩ := kst_ex [(Str.ofString "script", .ref scr)] F (by kst_all)
  clear F
  dsimp only [kstB] at FX
  k_with_none
  refine wpC_execs_cons (wpC_If (wpC_isTrue_Compare (wpC_ListComp (wpC_Call_Name ?_))))
  walk_at "my steps"
  refine wpC_callWith_K (K := K9 w.params) (by k_is) ?_
  walk_at "my steps"
  ktn_call 2 (rows_tel _ w [] text1 _ us1 at1 ok1 wd1 len1 (by decide))
  intro r9 n9 h9 tk9 F9 N9 P9
  obtain ⟨D, nD, rs, hl0, hD, rfl, rfl, hrs⟩ := P9
  have hlen : rs.length = 5 := by
    have := congrArg List.length (told_rs hrs)
    simpa using this
  refine comp_1 (rs := rs) ⟨_, (N9 _ (.head _)).1, rfl, nD, rfl⟩ (fun r hr => (N9 _ (.tail _ (List.mem_append_left _ (List.mem_map_of_mem hr)))).1) (by omega) rfl (by decide) (by decide) rfl (by decide) rfl (by decide) ?_
  intro D2 h10 tk10 hf10 hL10 hk10
  obtain ⟨oD2, hoD2, hcD2, nD2, hdD2⟩ := hL10
  have F10 := fr_keeps F9 hk10
  have N10 : News s₁.heap _ _ [(D2, oD2)] := nw_new F9 (fun p hp => by cases hp) hk10 hf10 hoD2
  clear F9 N9 FX N0
  walk_at "my steps"
  rename News s₁.heap _ _ _ => N11
  obtain ⟨as11, ra11⟩ := reads_told hrs _
  refine ne_dataH (da := dataT) (db := dataT) (reads_list_at (N11 _ (.tail _ (.head _))).1 hcD2 hdD2 ra11) (reads_list_at (N11 _ (.head _)).1 rfl rfl (.cons (.str _ _) (.cons (.str _ _) (.cons (.str _ _) (.cons (.str _ _) (.cons (.str _ _) .nil)))))) dataT_ok.1 dataT_ok.1 (by ktr_units) ?_
  rw [dataT_ok.2]
  walk_at "my steps"
  refine wpC_execs_nil ?_
  dsimp only
  refine wpC_execs_cons (wpC_ForRangeS (h₀ := s₁.heap) (σ := Unit) 0 (fun n => n ≤ 2) (fun _ => []) (fun _ => [(Str.ofString "script", .ref scr)]) (fun _ _ _ => True) rfl rfl rfl ?_ ?_ ?_)
  · walk_at "my steps"
    rename IsRange _ _ _ _ _ _ _ _ => hR
    obtain ⟨N9, hN1, hN2⟩ := rng_bound ns.length
    rw [hN2] at hR
    exact fs_start N9 () hR (by assumption) (by assumption) (fun p hp => by cases hp) (by kst_all) (rgsize N9) (rgsmall N9 (by omega)) hN1 trivial
  · clear ra11
    intro n I k c u1 h2 tk2 t2 hn hk _ hI2 F12 N12
    dsimp only [kstB] at F12
    obtain ⟨oI, hoI⟩ : ∃ oI, krsIt (0 + ((k + 1 : Nat) : Int)) ((n : Int) - ((k + 1 : Nat) : Int)) 1 = oI := ⟨_, rfl⟩
    rw [hoI] at N12 ⊢
    rw [Int.zero_add] at F12
    have hk2 : k < 2 := Nat.lt_of_lt_of_le hk hn
    have hle2 : ns.length < 1000 := Nat.lt_of_le_of_lt hle (by decide)
    refine toksC ?_
    intro tk3
    refine wpC_execs_cons (wpC_Assign_Tuple (wpC_Call_Name ?_))
    walk_at "my steps"
    refine wpC_callWith_K (K := K9 w.params) (by k_is) ?_
    repeat' ((fail_if_success (with_reducible show wpAny _ _ (PySem.call (Value.ref 188) _ _) _ _ _)); first | (k_unfold; (try dsimp only)) | walk1 | (dsimp only; walk1) | fail "no step")
    k_dflt (refine' TelS.use (pool_tel _ w _ scr sv ns hI' k _ hk2 hle2) hS' ?k1 ?k2 ?k3 ?k4 ?k5 ?k6 ?k7 ?k8 ?_)
    case k1 => k_asm
    case k2 => k_asm
    case k3 => k_asm
    case k4 => k_asm
    case k5 => k_asm
    case k6 => first | exact rfl | assumption
    case k7 => ktr_room
    case k8 => ktr_units
    intro r9 n9 h9 tk9 F9 N9 P9
    obtain ⟨S, nS, y0, y1, v0, v1, rfl, rfl, hy, hnS⟩ := P9
    walk_at "my steps"
    ktn_call 2 (lrows_tel _ w [(I, oI)] S y0 y1 v0 v1 nS hy (fun p hp => Nat.ne_of_lt (hnS p hp)))
    intro r20 n20 h20 tk20 F20 N20 P20
    obtain ⟨a20, D20, x, tx, us, rs3, nD20, rfl, rfl, ha20, L9, hrs3, b1, b2, b3⟩ := P20
    walk_at "my steps"
    refine wpC_execs_cons (wpC_If (wpC_isTrue_Compare (wpC_ListComp (wpC_Call_Name ?_))))
    walk_at "my steps"
    refine wpC_callWith_K (K := K9 w.params) (by k_is) ?_
    walk_at "my steps"
    ktn_call 2 (rows_tel _ w _ x tx us L9.at L9.ok L9.wd (Nat.lt_trans b1 (by decide)) (Nat.lt_trans b2 (by decide)))
    intro r22 n22 h22 tk22 F22 N22 P22
    obtain ⟨D, nD, rs, hl0, hD, rfl, rfl, hrs⟩ := P22
    have hlen2 : rs.length ≤ 100000 := by
      have q1 := congrArg List.length hrs
      have q2 := congrArg List.length hrs3
      rw [List.length_map] at q1 q2
      omega
    have hdat : rs.map (fun r => PyData.tuple [.str r.kd, .str r.told, .int r.pos]) = (rowsF 0 none false us).map rowP := by
      rw [← hrs, List.map_map]
      rfl
    refine comp_3 (rs := rs) ⟨_, (N22 _ (.head _)).1, rfl, nD, rfl⟩ (fun r hr => (N22 _ (.tail _ (List.mem_append_left _ (List.mem_map_of_mem hr)))).1) hlen2 rfl (by decide) (by decide) rfl (by decide) rfl (by decide) ?_
    intro D2 h23 tk23 as23 hf23 hR23 hk23
    rw [hdat] at hR23
    have F23 := fr_keeps F22 hk23
    have N23 : News s₁.heap _ _ _ := fun p hp => ⟨hk23 _ _ (N22 p hp).1, (N22 p hp).2⟩
    clear F22 N22
    walk_at "my steps"
    have sh := rows_shaped (rowsF_ok (k := 0) (b := none) (prev := false) L9.wd)
    obtain ⟨as24, ra24⟩ := reads_r3 (h := h23) (rs := rs3) (fun r hr => (N23 r.cell (.tail _ (List.mem_append_right _ (.tail _ (.tail _ (List.mem_append_left _ (List.mem_map_of_mem hr))))))).1)
    rw [hrs3] at ra24
    refine ne_dataH hR23 (reads_list_at (N23 (D20, _) (.tail _ (List.mem_append_right _ (.tail _ (.head _))))).1 rfl rfl ra24) sh.1 sh.1 (by ktr_units) ?_
    rw [sh.2]
    walk_at "my steps"
    refine wpC_execs_nil ?_
    dsimp only
    refine wpC_execs_nil (fs_end () F23 N23 ?_ (fun p hp => by cases hp) (by kst_all) trivial)
    intro p hp
    rcases List.mem_singleton.mp hp with rfl
    exact .tail _ (List.mem_append_right _ (.tail _ (.tail _ (List.mem_append_right _ (.head _)))))
  · intro n c u1 h2 tk2 hn _ F12 N12
    dsimp only [kstB] at F12
    refine wpC_leaf ?_
    walk_at "my steps"
    dsimp only
    (k_end; wrow_close))
end Mine
theorem PySem.Challenge.cw_on0021_01_holds : PySem.Challenge.rw_on0021_01.Holds := by
  exact Mine.law_goal
