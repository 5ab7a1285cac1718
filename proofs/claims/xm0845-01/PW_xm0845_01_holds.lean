import PyProof.Rows.All
import Wide.All
import OpenK.AllK
import Wide.FinOn
import Lean
import PySem.Challenge.RW_xm0845_01
open PySem PySem.W PyProof.Rows
set_option Elab.async false
set_option maxRecDepth 100000
set_option maxHeartbeats 8000000
set_option rowWalk.seconds 0
set_option linter.unusedVariables false
namespace Mine
/-! a logic for contexts in which no decoder holds an object: what the bytearray's own checks look for on the stack -/
def okCode : Code → Bool
  | .builtin id _ => !Builtin.Bytes.decodersThatHold.contains id
  | _ => true
def okStack (l : List (Code × Pos)) : Prop := ∀ x ∈ l, okCode x.1 = true
def wpG {α : Type} (M : Model) (A : Around) (t : Sem α) (Q : α → Shared → Prop) (E : Value → Shared → Prop) (s : Shared) : Prop :=
  ∀ (Γ : Ctx) (p : Pos), Γ.In A → okCode Γ.code = true → okStack Γ.below → Sem.wp M Γ t (fun a _ s' => Q a s') (fun e _ s' => E e s') p s
def codeG (M : Model) (A : Around) (c : Code) (R : Result → Shared → Prop) (s : Shared) : Prop :=
  ∀ (Γ : Ctx) (p : Pos), Γ.code = c → Γ.Below A → okStack Γ.below → wpCode M Γ R p s
section
variable {α β : Type} {M : Model} {A : Around} {E : Value → Shared → Prop} {s : Shared}
theorem wpG.of {t : Sem α} {Q : α → Shared → Prop} (h : wpAny M A t Q E s) : wpG M A t Q E s := fun Γ p a _ _ => h Γ p a
theorem wpG.mono {t : Sem α} {Q Q' : α → Shared → Prop} {E' : Value → Shared → Prop} (h : wpG M A t Q E s) (hQ : ∀ a s, Q a s → Q' a s) (hE : ∀ e s, E e s → E' e s) : wpG M A t Q' E' s :=
  fun Γ p a b c => Sem.wp_mono M Γ t (fun x _ s => hQ x s) (fun e _ s => hE e s) p s (h Γ p a b c)
theorem wpG.bind {m : Sem α} {f : α → Sem β} {Q : β → Shared → Prop} (h : wpG M A m (fun a s' => wpG M A (f a) Q E s') E s) : wpG M A (m >>= f) Q E s := fun Γ p a b c => by
  rw [Sem.wp_bind']
  exact Sem.wp_mono M Γ m (fun x p' s' h' => h' Γ p' a b c) (fun _ _ _ h' => h') p s (h Γ p a b c)
theorem wpG.pre {m : Sem α} {f : α → Sem β} {Q : β → Shared → Prop} (h : wpAny M A m (fun a s' => wpG M A (f a) Q E s') E s) : wpG M A (m >>= f) Q E s := .bind (.of h)
theorem wpG.keep {vs : List Value} {m : Sem α} {Q : α → Shared → Prop} (h : wpG M A m Q E s) : wpG M A (m.keep vs) Q E s := fun Γ p a b c => by rw [Sem.wp_keep]; exact h Γ p a b c
theorem wpG.holding {vs : List Value} {m : Sem α} {Q : α → Shared → Prop} (h : wpG M A m Q E s) : wpG M A (PySem.holding vs m) Q E s := fun Γ p a b c => by rw [Sem.wp_holding]; exact h Γ p a b c
theorem wpG.runValue {c : Code} {Q : Value → Shared → Prop}
    (hc : codeG M A c (fun r s' => match r with | .ok (.ret v) => Q v s' | .ok _ => False | .error e => E e s') s) : wpG M A (PySem.runValue c) Q E s := fun Γ p a b d => by
  rw [Sem.wp_runValue]
  refine hc _ p rfl (a.enter c none p (by intro x; cases x)) fun x hx => ?_
  rcases List.mem_cons.mp hx with rfl | hx
  · exact b
  · exact d x hx
theorem wpG.call {f : Value} {pos : List Value} {kw : List (Str × Value)} {Q : Value → Shared → Prop}
    (hc : codeG M A (.call f ⟨pos, kw⟩) (fun r s' => match r with | .ok (.ret v) => Q v s' | .ok _ => False | .error e => E e s') s) : wpG M A (PySem.call f pos kw) Q E s := wpG.runValue hc
theorem codeG.of {c : Code} {R : Result → Shared → Prop} (h : codeAny M A c R s) : codeG M A c R s := fun Γ p a b _ => h Γ p a b
theorem codeG.tree {c : Code} {R : Result → Shared → Prop} (hc : okCode c = true)
    (h : wpG M (A.under c) (M.den c) (fun fin s' => match fin with | .done f => R (.ok f) s' | .again c' => c'.quiet = true ∧ codeG M A c' R s') (fun e s' => R (.error e) s') s) : codeG M A c R s := fun Γ p e b d => by
  rw [wpCode_iff_wp, e]
  refine Sem.wp_mono M Γ _ (fun fin p' s' h' => ?_) (fun _ _ _ h' => h') p s (h Γ p (e ▸ b.in) (e ▸ hc) d)
  cases fin with
  | done f => exact h'
  | again c' => exact ⟨h'.1, h'.2 (Γ.goto c') p' rfl (b.goto c') d⟩
theorem wpG.stack {k : List (Code × Pos) → Sem α} {Q : α → Shared → Prop} (h : ∀ st, okStack st → (∀ g, A.guards = some g → guardsOf st = g) → wpG M A (k st) Q E s) : wpG M A (.stack k) Q E s := fun Γ p a b c => by
  rw [Sem.wp_stack]
  refine h _ (fun x hx => ?_) (fun g hg => ?_) Γ p a b c
  · rcases List.mem_cons.mp hx with rfl | hx
    · exact b
    · exact c x hx
  · rw [guardsOf_cons]; exact a.2.2.2.1 g hg
end
/-- a thread whose tree ends well in the one context that a claim has ends well -/
theorem ends_G {prog : Program} {w : World} {t : Sem Fin} {s : Shared} {R : Result → Shared → Prop} (hreg : s.asleep)
    (h : wpG (model prog w) callerA t (fun fin s' => ∃ f, fin = .done f ∧ R (.ok f) s' ∧ AllBare s'.gens) (fun e s' => R (.error e) s' ∧ AllBare s'.gens) s) :
    ∃ n r s₁ s₂, schedN (denote table) prog w n (.single s ⟨t, .builtin "claim.caller" {}, default, []⟩) = .halted (outcomeOf r) s₂ ∧ s₂.forget = s₁.forget ∧ R r s₁ ∧ s₂.heap.life = s.heap.life := by
  have hw := h ⟨.builtin "claim.caller" {}, none, none, [], none⟩ default caller_in (by decide) (fun _ hx => nomatch hx)
  obtain ⟨n, r, s₁, s₂, hs, hr, hf, hR⟩ := wp_halts_full (M := model prog w) (R := R) (t := t) (p := default) hreg (Sem.wp_mono _ _ _ (fun fin p' s' q => by
    obtain ⟨f, rfl, q1, q2⟩ := q
    exact ⟨q1, leftWithCleanup_false_of_bare q2⟩) (fun _ _ _ q => ⟨q.1, leftWithCleanup_false_of_bare q.2⟩) _ _ hw)
  exact ⟨n, r, s₁, s₂, hs, hf, hR, runN_life _ _ _ hr⟩
/-- what is asked of the law's call, over the contexts without decoders -/
abbrev WalkOG (q : Program) (loose : List Str) (XP : (Str → Option Value) → Heap → Prop) (YP : World → Heap → Prop) (r : RowW) (d : DefRec) (kwd : List (Str × Expr)) : Prop :=
  ∀ (w : World) (s₀ s₁ : Shared) (mg mb : Str → Option Value), Ground q loose r.records XP w s₀ mg mb s₁.heap → YP w s₁.heap → ∀ (a : Addr) (o : Obj) (pm cd doc dV kV : Value), s₁.heap.get? a = some o →
    o.data = .func { PySem.Calls.docDef d.name d.params d.body d.scope pm cd doc with defaults := dV, kwdefaults := kV } → s₁.heap.CodeRec cd d.name → Dflts mg s₁.heap d.params kwd dV kV → mg d.name = some (.ref a) → s₁.gens = #[] →
    ∀ (args : List WData) (vals : List Value) (as : List Addr), r.claim.pre args = true → WData.layableAll args = true → ReadsAllW r.records (classAt s₀.heap) s₁.heap vals args as → WellAll w.params s₁.heap vals args → (∀ a ∈ as, (a == sysModules) = false) →
      wpG (model r.prog w) callerA (PySem.call (.ref a) vals) (fun v s' => GoodWG r.claim (classAt s₀.heap) (ExcName.means s₀.heap) args s₁ (.ok (.ret v)) s')
        (fun e s' => GoodWG r.claim (classAt s₀.heap) (ExcName.means s₀.heap) args s₁ (.error e) s') s₁
theorem by_cps {G : Prop} (h : ∀ P : Prop, (G → P) → P) : G := h G id
/-- one call of the claim, from a walk of its tree -/
theorem callFrom_G {c : ClaimW} {tree : List Value → Sem Fin} {w : World} {s : Shared} {free : Addr → Prop} {gens : Prop} {kept : Heap → Prop} (hz : s.asleep) (hgens : s.gens = #[])
    (spec : ∀ args, c.pre args = true → WData.layableAll args = true → ∀ ord : List DictEntry → List DictEntry, (∀ l, (ord l).Perm l) →
      ∃ vs s₁, layAllW c.records (classAt s.heap) w.params ord args s = some (vs, s₁) ∧
        wpG (model c.prog w) callerA (tree vs) (fun fin s' => ∃ f, fin = .done f ∧ (c.Ends s args vs s₁ (.ok f) s' ∧ s'.os = s.os ∧ kept s'.heap) ∧ AllBare s'.gens)
          (fun e s' => (c.Ends s args vs s₁ (.error e) s' ∧ s'.os = s.os ∧ kept s'.heap) ∧ AllBare s'.gens) s₁) :
    c.CallFrom (fun vs => ⟨tree vs, .builtin "claim.caller" {}, default, []⟩) w free gens kept s := by
  intro args hpre hlay ord hord
  refine by_cps fun P k => ?_
  obtain ⟨vs, s₁, laid, walk⟩ := spec args hpre hlay ord hord
  have rest := layAllW_rest _ _ _ laid
  obtain ⟨n, r, t₁, t₂, sched, same, ⟨ends, os, kp⟩, life⟩ := ends_G (R := fun r s' => c.Ends s args vs s₁ r s' ∧ s'.os = s.os ∧ kept s'.heap) (Shared.asleep_of_life rest.2.2.2 hz) walk
  obtain ⟨eh, _, _, eo, _⟩ := Shared.forget_eq same
  have ends := ends.congr eh
  rw [← eh] at kp
  rw [← eo] at os
  refine k ⟨vs, s₁, laid, n, _, t₂, sched, ?_, (fun _ i x hx => by rw [hgens] at hx; simp at hx), kp, by rw [life.trans rest.2.2.2], Shared.rest_eq os⟩
  exact ends.imp (Exists.imp fun v => And.imp (fun e => by subst e; rfl) (And.imp id (And.imp id (And.imp id (And.imp (fun a4 b o y _ => a4 b o y) id)))))
    (Exists.imp fun e => Exists.imp fun ob => Exists.imp fun cls => And.imp (fun e => by subst e; rfl) (And.imp id (And.imp id (And.imp id (And.imp id fun a5 b o y _ => a5 b o y)))))
theorem PySem.W.holds_open {r : OpenRow} {q : Program} {loose : List Str} {Xt : Shared → Bool} {XP : (Str → Option Value) → Heap → Prop} {α : Type} {Yf : Shared → α} {Ya : World → α} {YP : World → Heap → Prop} {d : DefRec} {kwd : List (Str × Expr)} {N : Nat}
    (left : LeftO r.prog q loose Xt Yf Ya N) (hY : ∀ w s, Yf s = Ya w → YP w s.heap) (hYk : ∀ w h h', YP w h → (∀ b o, h.get? b = some o → h'.get? b = some o) → YP w h')
    (hX : ∀ s, Xt s = true → XP (s.heap.nsMap mainGlobals) s.heap) (hXk : ∀ mg h h', XP mg h → (∀ b o, h.get? b = some o → h'.get? b = some o) → XP mg h')
    (hdef : defOf q r.name = some (d, kwd)) (hp : r.prog.theDef r.name = some (d.params, d.body, d.scope)) (hk : kwWritten? d.params.kwonlyargs d.params.kw_defaults = some kwd) (hRf : ∀ s, Xt s = true → RecFacts r.records s.heap) (hwr : (!r.writes || r.records.isEmpty) = true)
    (k1 : r.wellSaid = true) (ok : (chainsOk q && opensWell r.prog && (frees r.toRowW && r.within.isEmpty)) = true) (hb : r.prog.bare) (hw : r.toRowW.promised)
    (walk : WalkOG q loose XP YP r.toRowW d kwd) : r.Holds := by
  obtain ⟨ok1, ok2⟩ := Bool.and_eq_true_iff.mp ok
  obtain ⟨chains, opens⟩ := Bool.and_eq_true_iff.mp ok1
  obtain ⟨fr, wi⟩ := Bool.and_eq_true_iff.mp ok2
  obtain ⟨same, un, al, ap, mk⟩ := frees_parts fr
  have within : r.toRowW.claim.within = [] := List.isEmpty_iff.mp wi
  refine ⟨k1, hw, ⟨hb, opens, by show r.toRowW.makers.map _ = []; rw [mk]; rfl⟩, hw.witness, fun w => ⟨(left.behind hX chains w).1, fun s' hs' => ?_⟩⟩
  refine by_cps fun P k => ?_
  obtain ⟨s₀, f1, f2, s, top, asl, gen, ns, G, y⟩ := (left.behind (XP := fun mg h => XP mg h ∧ RecFacts r.records h) (fun s hs => ⟨hX s hs, hRf s hs⟩) chains w).2 s' hs'
  have G0 : Ground q loose [] XP w s (s.heap.nsMap mainGlobals) (s.heap.nsMap builtinsNs) s.heap := ⟨G.T, G.B, G.D, G.TE, G.TD, G.W, G.X.1, G.cls, G.has, G.apart, G.once, G.K⟩
  have recs := G.X.2
  have nog : s.gens = #[] := Array.eq_empty_of_size_eq_zero (beq_iff_eq.mp gen)
  have G1 : Ground q loose r.records XP w s _ _ s.heap := recs.ground G0
  refine k ⟨s₀, f1, f2, s, top, fun n hn => ?_, recs.1, recs.2.1, ?_⟩
  · obtain rfl : n = r.name := by split at hn <;> simp_all
    exact pinned_of_view ns G0 hdef hp hk
  · refine callFrom_G (c := r.toRowW.claim) (tree := fun vs => (do match ← nsGet mainNs r.name with
        | some f => do ret (← PySem.call f vs)
        | none => unsupported "claim.caller:no-such-global")) asl nog fun args pre lay ord perm => ?_
    refine by_cps fun P k => ?_
    obtain ⟨⟨vs, s₁⟩, laid⟩ := Option.isSome_iff_exists.mp (layAllW_isSome (P := w.params) (ord := ord) G1.has args r.args s (pre_splitW pre).1)
    have keeps := layAllW_keeps _ _ _ laid
    have rest := layAllW_rest _ _ _ laid
    obtain ⟨as, reads, ins, old⟩ := reads_layAllW perm _ _ _ laid lay s₁.heap (fun _ _ e => e)
    have L : Laid r.records w s s₁ args vs as := ⟨⟨ord, perm, laid⟩, reads, ins, old, keeps, rest.1.trans nog, rest.2.2.1⟩
    have G2 := G1.keeps hXk keeps
    obtain ⟨a, o, pm, cd, doc, dV, kV, h1, h2, h3, h4, h5⟩ := G2.fn hdef
    have done := walk w s s₁ _ _ G2 (hYk _ _ _ (hY w s y) keeps) a o pm cd doc dV kV h2 h3 h4 h5 (defOf_name hdef ▸ h1) L.gens args vs as pre lay L.reads L.well (L.low G1.low)
    have idf := ident_freeW un al ap
    refine k ⟨vs, s₁, laid, wpG.pre (wpAny_nsGet G2.T.g ?_)⟩
    rw [h1]
    refine wpG.bind (wpG.mono done (fun v s' g => wpG.of (wpAny_pure ?_)) fun e s' g => ?_)
    · have z := g.laid (c := r.toRowW.claim) same within idf L
      exact ⟨_, rfl, ⟨z.1, z.2.1, fun q => ⟨namesKept_of top ns r.keeps keeps g.2.1.old, noTable hwr q⟩⟩, z.2.2⟩
    · have z := g.laid (c := r.toRowW.claim) same within idf L
      exact ⟨⟨z.1, z.2.1, fun q => ⟨namesKept_of top ns r.keeps keeps g.2.1.old, noTable hwr q⟩⟩, z.2.2⟩
/-! the program's own statements, by their place -/
noncomputable def topBody : List Stmt := PySem.Challenge.rw_xm0845_01.row.prog.main.body
noncomputable def topAt (i : Nat) : Option Stmt := topBody[i]?
noncomputable def inAt (i j : Nat) : Option Stmt := match topAt i with
  | some (.ClassDef _ _ _ b _ _ _ _ _ _ _) => b[j]?
  | _ => none
def IsDef (o : Option Stmt) (A : Arguments) (B : List Stmt) (S : Scope) : Prop := match o with
  | some (.FunctionDef _ a b _ _ _ s _ _ _) => a = A ∧ b = B ∧ s = S
  | _ => False
def bodyOf {l m : List Stmt} (_ : l = m) : List Stmt := m
/-- the program without its rows of __name__ -/
noncomputable def hd.view_39 : Program := { PySem.Challenge.rw_xm0845_01.row.prog with main := { PySem.Challenge.rw_xm0845_01.row.prog.main with body := bodyOf (by rfl : ([1, 2, 3, 4, 5, 7, 8, 9, 10, 11, 12, 14, 15, 16, 17, 19, 20, 21, 22, 23].filterMap fun i => topBody[i]?) = [_, _, _, _, _, _, _, _, _, _, _, _, _, _, _, _, _, _, _, _]) } }
/-- the objects that the top leaves, as far as the law reaches (printed by wip/GenHd.lean) -/
noncomputable def hd.heap_39 : Params → Frag := (fun (A11 : Arguments) (B11 : List Stmt) (S11 : Scope) (_ : IsDef (topAt 11) A11 B11 S11) (A12 : Arguments) (B12 : List Stmt) (S12 : Scope) (_ : IsDef (topAt 12) A12 B12 S12) (A17x0 : Arguments) (B17x0 : List Stmt) (S17x0 : Scope) (_ : IsDef (inAt 17 0) A17x0 B17x0 S17x0) (A17x1 : Arguments) (B17x1 : List Stmt) (S17x1 : Scope) (_ : IsDef (inAt 17 1) A17x1 B17x1 S17x1) (A17x2 : Arguments) (B17x2 : List Stmt) (S17x2 : Scope) (_ : IsDef (inAt 17 2) A17x2 B17x2 S17x2) (A19 : Arguments) (B19 : List Stmt) (S19 : Scope) (_ : IsDef (topAt 19) A19 B19 S19) (A20 : Arguments) (B20 : List Stmt) (S20 : Scope) (_ : IsDef (topAt 20) A20 B20 S20) (A21 : Arguments) (B21 : List Stmt) (S21 : Scope) (_ : IsDef (topAt 21) A21 B21 S21) (A22 : Arguments) (B22 : List Stmt) (S22 : Scope) (_ : IsDef (topAt 22) A22 B22 S22) (A23 : Arguments) (B23 : List Stmt) (S23 : Scope) (_ : IsDef (topAt 23) A23 B23 S23) (P : Params) =>
  ((nat_lit 2), ⟨Value.none, none, (Data.dict #[⟨(PyData.keyHash P (Str.ofString "type.__subclasses__.Exception.0")), (Value.str (Str.ofString "type.__subclasses__.Exception.0") 205), (Value.int (24 : Int) 0)⟩, ⟨(PyData.keyHash P (Str.ofString "type.__subclasses__.Exception.n")), (Value.str (Str.ofString "type.__subclasses__.Exception.n") 206), (Value.int (1 : Int) 0)⟩] 2), #[]⟩) ::
  ((nat_lit 3), ⟨(Value.type "dict"), none, (Data.dict #[⟨(PyData.keyHash P (Str.ofString "__name__")), (Value.str (Str.ofString "__name__") 165), (Value.str (Str.ofString "law_xm0845_01") 373)⟩, ⟨(PyData.keyHash P (Str.ofString "__doc__")), (Value.str (Str.ofString "__doc__") 166), Value.none⟩, ⟨(PyData.keyHash P (Str.ofString "__package__")), (Value.str (Str.ofString "__package__") 167), Value.none⟩, ⟨(PyData.keyHash P (Str.ofString "__loader__")), (Value.str (Str.ofString "__loader__") 168), (Value.builtin "__main__.__loader__#opaque")⟩, ⟨(PyData.keyHash P (Str.ofString "__spec__")), (Value.str (Str.ofString "__spec__") 169), Value.none⟩, ⟨(PyData.keyHash P (Str.ofString "__annotations__")), (Value.str (Str.ofString "__annotations__") 170), (Value.ref 6)⟩, ⟨(PyData.keyHash P (Str.ofString "__builtins__")), (Value.str (Str.ofString "__builtins__") 171), (Value.ref 4)⟩, ⟨(PyData.keyHash P (Str.ofString "__file__")), (Value.str (Str.ofString "__file__") 173), (Value.str (Str.ofString "/claim/cut.py") 172)⟩, ⟨(PyData.keyHash P (Str.ofString "__cached__")), (Value.str (Str.ofString "__cached__") 174), Value.none⟩, ⟨(PyData.keyHash P (Str.ofString "KeepError")), (Value.str (Str.ofString "KeepError") 208), (Value.ref 24)⟩, ⟨(PyData.keyHash P (Str.ofString "StoreError")), (Value.str (Str.ofString "StoreError") 224), (Value.ref 37)⟩, ⟨(PyData.keyHash P (Str.ofString "Corrupt")), (Value.str (Str.ofString "Corrupt") 240), (Value.ref 49)⟩, ⟨(PyData.keyHash P (Str.ofString "ShortOctets")), (Value.str (Str.ofString "ShortOctets") 256), (Value.ref 61)⟩, ⟨(PyData.keyHash P (Str.ofString "BadOption")), (Value.str (Str.ofString "BadOption") 272), (Value.ref 73)⟩, ⟨(PyData.keyHash P (Str.ofString "MAX_32")), (Value.str (Str.ofString "MAX_32") 276), (Value.int (4294967295 : Int) 275)⟩, ⟨(PyData.keyHash P (Str.ofString "HASH_SEED")), (Value.str (Str.ofString "HASH_SEED") 278), (Value.int (3164544308 : Int) 277)⟩, ⟨(PyData.keyHash P (Str.ofString "HASH_MUL")), (Value.str (Str.ofString "HASH_MUL") 280), (Value.int (3332679571 : Int) 279)⟩, ⟨(PyData.keyHash P (Str.ofString "HASH_SHIFT")), (Value.str (Str.ofString "HASH_SHIFT") 282), (Value.int (24 : Int) 281)⟩, ⟨(PyData.keyHash P (Str.ofString "read_fixed32")), (Value.str (Str.ofString "read_fixed32") 290), (Value.ref 82)⟩, ⟨(PyData.keyHash P (Str.ofString "bloom_hash")), (Value.str (Str.ofString "bloom_hash") 301), (Value.ref 89)⟩, ⟨(PyData.keyHash P (Str.ofString "MOST_PROBES")), (Value.str (Str.ofString "MOST_PROBES") 305), (Value.int (30 : Int) 304)⟩, ⟨(PyData.keyHash P (Str.ofString "LEAST_FILTER_BITS")), (Value.str (Str.ofString "LEAST_FILTER_BITS") 307), (Value.int (64 : Int) 306)⟩, ⟨(PyData.keyHash P (Str.ofString "WORD")), (Value.str (Str.ofString "WORD") 309), (Value.int (4294967295 : Int) 308)⟩, ⟨(PyData.keyHash P (Str.ofString "Bloom")), (Value.str (Str.ofString "Bloom") 372), (Value.ref 120)⟩, ⟨(PyData.keyHash P (Str.ofString "_law_draw")), (Value.str (Str.ofString "_law_draw") 382), (Value.ref 131)⟩, ⟨(PyData.keyHash P (Str.ofString "_law_word")), (Value.str (Str.ofString "_law_word") 391), (Value.ref 138)⟩, ⟨(PyData.keyHash P (Str.ofString "_law_spots")), (Value.str (Str.ofString "_law_spots") 397), (Value.ref 143)⟩, ⟨(PyData.keyHash P (Str.ofString "_law_filter")), (Value.str (Str.ofString "_law_filter") 411), (Value.ref 150)⟩, ⟨(PyData.keyHash P (Str.ofString "law")), (Value.str (Str.ofString "law") 417), (Value.ref 155)⟩] 29), #[]⟩) ::
  ((nat_lit 6), ⟨(Value.type "dict"), none, (Data.dict #[] 0), #[]⟩) ::
  ((nat_lit 15), ⟨(Value.type "tuple"), none, (Data.seq #[(Value.type "Exception")] 0), #[]⟩) ::
  ((nat_lit 22), ⟨(Value.type "tuple"), none, (Data.seq #[] 0), #[]⟩) ::
  ((nat_lit 23), ⟨(Value.type "dict"), none, (Data.dict #[⟨(PyData.keyHash P (Str.ofString "__module__")), (Value.str (Str.ofString "__module__") 196), (Value.str (Str.ofString "raftkeep.errors") 187)⟩, ⟨(PyData.keyHash P (Str.ofString "__firstlineno__")), (Value.str (Str.ofString "__firstlineno__") 200), (Value.int (2 : Int) 199)⟩, ⟨(PyData.keyHash P (Str.ofString "__static_attributes__")), (Value.str (Str.ofString "__static_attributes__") 201), (Value.ref 22)⟩, ⟨(PyData.keyHash P (Str.ofString "__weakref__")), (Value.str (Str.ofString "__weakref__") 203), (Value.ref 25)⟩, ⟨(PyData.keyHash P (Str.ofString "__doc__")), (Value.str (Str.ofString "__doc__") 204), Value.none⟩] 3), #[]⟩) ::
  ((nat_lit 24), ⟨(Value.type "type"), none, (Data.cls ⟨(Str.ofString "KeepError"), [(Value.type "Exception")], [(Value.ref 24), (Value.type "Exception"), (Value.type "BaseException"), (Value.type "object")], 23, (Str.ofString "KeepError"), Bool.true, [], [(Value.ref 37)], Bool.false, none, Bool.false⟩), #[(some (Value.ref 15)), none, (some (Value.str (Str.ofString "KeepError") 189)), (some (Value.str (Str.ofString "KeepError") 197)), (some (Value.builtin "Exception.__new__")), (some (Value.bool Bool.true))]⟩) ::
  ((nat_lit 25), ⟨(Value.type "getset_descriptor"), none, (Data.fields #[(Value.str (Str.ofString "__weakref__") 202), (Value.ref 24), (Value.builtin "ExceptionGroup.__weakref__"), Value.none]), #[]⟩) ::
  ((nat_lit 28), ⟨(Value.type "tuple"), none, (Data.seq #[(Value.ref 24)] 0), #[]⟩) ::
  ((nat_lit 35), ⟨(Value.type "tuple"), none, (Data.seq #[] 0), #[]⟩) ::
  ((nat_lit 36), ⟨(Value.type "dict"), none, (Data.dict #[⟨(PyData.keyHash P (Str.ofString "__module__")), (Value.str (Str.ofString "__module__") 216), (Value.str (Str.ofString "raftkeep.errors") 187)⟩, ⟨(PyData.keyHash P (Str.ofString "__firstlineno__")), (Value.str (Str.ofString "__firstlineno__") 220), (Value.int (4 : Int) 219)⟩, ⟨(PyData.keyHash P (Str.ofString "__static_attributes__")), (Value.str (Str.ofString "__static_attributes__") 221), (Value.ref 35)⟩, ⟨(PyData.keyHash P (Str.ofString "__doc__")), (Value.str (Str.ofString "__doc__") 222), Value.none⟩] 2), #[]⟩) ::
  ((nat_lit 37), ⟨(Value.type "type"), none, (Data.cls ⟨(Str.ofString "StoreError"), [(Value.ref 24)], [(Value.ref 37), (Value.ref 24), (Value.type "Exception"), (Value.type "BaseException"), (Value.type "object")], 36, (Str.ofString "StoreError"), Bool.true, [], [(Value.ref 49), (Value.ref 73)], Bool.false, none, Bool.false⟩), #[(some (Value.ref 28)), none, (some (Value.str (Str.ofString "StoreError") 209)), (some (Value.str (Str.ofString "StoreError") 217)), (some (Value.builtin "Exception.__new__")), (some (Value.bool Bool.true))]⟩) ::
  ((nat_lit 40), ⟨(Value.type "tuple"), none, (Data.seq #[(Value.ref 37)] 0), #[]⟩) ::
  ((nat_lit 47), ⟨(Value.type "tuple"), none, (Data.seq #[] 0), #[]⟩) ::
  ((nat_lit 48), ⟨(Value.type "dict"), none, (Data.dict #[⟨(PyData.keyHash P (Str.ofString "__module__")), (Value.str (Str.ofString "__module__") 232), (Value.str (Str.ofString "raftkeep.errors") 187)⟩, ⟨(PyData.keyHash P (Str.ofString "__firstlineno__")), (Value.str (Str.ofString "__firstlineno__") 236), (Value.int (6 : Int) 235)⟩, ⟨(PyData.keyHash P (Str.ofString "__static_attributes__")), (Value.str (Str.ofString "__static_attributes__") 237), (Value.ref 47)⟩, ⟨(PyData.keyHash P (Str.ofString "__doc__")), (Value.str (Str.ofString "__doc__") 238), Value.none⟩] 2), #[]⟩) ::
  ((nat_lit 49), ⟨(Value.type "type"), none, (Data.cls ⟨(Str.ofString "Corrupt"), [(Value.ref 37)], [(Value.ref 49), (Value.ref 37), (Value.ref 24), (Value.type "Exception"), (Value.type "BaseException"), (Value.type "object")], 48, (Str.ofString "Corrupt"), Bool.true, [], [(Value.ref 61)], Bool.false, none, Bool.false⟩), #[(some (Value.ref 40)), none, (some (Value.str (Str.ofString "Corrupt") 225)), (some (Value.str (Str.ofString "Corrupt") 233)), (some (Value.builtin "Exception.__new__")), (some (Value.bool Bool.true))]⟩) ::
  ((nat_lit 52), ⟨(Value.type "tuple"), none, (Data.seq #[(Value.ref 49)] 0), #[]⟩) ::
  ((nat_lit 59), ⟨(Value.type "tuple"), none, (Data.seq #[] 0), #[]⟩) ::
  ((nat_lit 60), ⟨(Value.type "dict"), none, (Data.dict #[⟨(PyData.keyHash P (Str.ofString "__module__")), (Value.str (Str.ofString "__module__") 248), (Value.str (Str.ofString "raftkeep.errors") 187)⟩, ⟨(PyData.keyHash P (Str.ofString "__firstlineno__")), (Value.str (Str.ofString "__firstlineno__") 252), (Value.int (8 : Int) 251)⟩, ⟨(PyData.keyHash P (Str.ofString "__static_attributes__")), (Value.str (Str.ofString "__static_attributes__") 253), (Value.ref 59)⟩, ⟨(PyData.keyHash P (Str.ofString "__doc__")), (Value.str (Str.ofString "__doc__") 254), Value.none⟩] 2), #[]⟩) ::
  ((nat_lit 61), ⟨(Value.type "type"), none, (Data.cls ⟨(Str.ofString "ShortOctets"), [(Value.ref 49)], [(Value.ref 61), (Value.ref 49), (Value.ref 37), (Value.ref 24), (Value.type "Exception"), (Value.type "BaseException"), (Value.type "object")], 60, (Str.ofString "ShortOctets"), Bool.true, [], [], Bool.false, none, Bool.false⟩), #[(some (Value.ref 52)), none, (some (Value.str (Str.ofString "ShortOctets") 241)), (some (Value.str (Str.ofString "ShortOctets") 249)), (some (Value.builtin "Exception.__new__")), (some (Value.bool Bool.true))]⟩) ::
  ((nat_lit 64), ⟨(Value.type "tuple"), none, (Data.seq #[(Value.ref 37)] 0), #[]⟩) ::
  ((nat_lit 71), ⟨(Value.type "tuple"), none, (Data.seq #[] 0), #[]⟩) ::
  ((nat_lit 72), ⟨(Value.type "dict"), none, (Data.dict #[⟨(PyData.keyHash P (Str.ofString "__module__")), (Value.str (Str.ofString "__module__") 264), (Value.str (Str.ofString "raftkeep.errors") 187)⟩, ⟨(PyData.keyHash P (Str.ofString "__firstlineno__")), (Value.str (Str.ofString "__firstlineno__") 268), (Value.int (10 : Int) 267)⟩, ⟨(PyData.keyHash P (Str.ofString "__static_attributes__")), (Value.str (Str.ofString "__static_attributes__") 269), (Value.ref 71)⟩, ⟨(PyData.keyHash P (Str.ofString "__doc__")), (Value.str (Str.ofString "__doc__") 270), Value.none⟩] 2), #[]⟩) ::
  ((nat_lit 73), ⟨(Value.type "type"), none, (Data.cls ⟨(Str.ofString "BadOption"), [(Value.ref 37)], [(Value.ref 73), (Value.ref 37), (Value.ref 24), (Value.type "Exception"), (Value.type "BaseException"), (Value.type "object")], 72, (Str.ofString "BadOption"), Bool.true, [], [], Bool.false, none, Bool.false⟩), #[(some (Value.ref 64)), none, (some (Value.str (Str.ofString "BadOption") 257)), (some (Value.str (Str.ofString "BadOption") 265)), (some (Value.builtin "Exception.__new__")), (some (Value.bool Bool.true))]⟩) ::
  ((nat_lit 76), ⟨(Value.type "tuple"), none, (Data.seq #[] 0), #[]⟩) ::
  ((nat_lit 78), ⟨(Value.type "tuple"), none, (Data.seq #[(Value.str (Str.ofString "data") 286), (Value.str (Str.ofString "at") 287)] 0), #[]⟩) ::
  ((nat_lit 79), ⟨(Value.type "tuple"), none, (Data.seq #[] 0), #[]⟩) ::
  ((nat_lit 81), ⟨(Value.type "code"), none, (Data.fields #[(Value.str (Str.ofString "read_fixed32") 283), (Value.str (Str.ofString "read_fixed32") 284), (Value.str (Str.ofString "/claim/cut.py") 285), (Value.int (17 : Int) 0), (Value.int (2 : Int) 0), (Value.int (0 : Int) 0), (Value.int (0 : Int) 0), (Value.int (3 : Int) 0), (Value.ref 76), (Value.bool Bool.true), (Value.int (181 : Int) 0), (Value.ref 77), Value.none, (Value.ref 78), (Value.ref 79), (Value.ref 80), (Value.int (288 : Int) 0), (Value.int (17 : Int) 0), (Value.str (Str.ofString "/claim/cut.py") 289)]), #[]⟩) ::
  ((nat_lit 82), ⟨(Value.type "function"), none, (Data.func ⟨(Str.ofString "read_fixed32"), (Str.ofString "read_fixed32"), A11, FuncBody.stmts (B11), S11, 3, [], Value.none, Value.none, Value.none, (Value.str (Str.ofString "raftkeep.octets") 273), none, (Value.ref 81), Value.none, 0⟩), #[]⟩) ::
  ((nat_lit 83), ⟨(Value.type "tuple"), none, (Data.seq #[] 0), #[]⟩) ::
  ((nat_lit 85), ⟨(Value.type "tuple"), none, (Data.seq #[(Value.str (Str.ofString "data") 294), (Value.str (Str.ofString "size") 295), (Value.str (Str.ofString "h") 296), (Value.str (Str.ofString "at") 297), (Value.str (Str.ofString "rest") 298)] 0), #[]⟩) ::
  ((nat_lit 86), ⟨(Value.type "tuple"), none, (Data.seq #[] 0), #[]⟩) ::
  ((nat_lit 88), ⟨(Value.type "code"), none, (Data.fields #[(Value.str (Str.ofString "bloom_hash") 291), (Value.str (Str.ofString "bloom_hash") 292), (Value.str (Str.ofString "/claim/cut.py") 293), (Value.int (21 : Int) 0), (Value.int (1 : Int) 0), (Value.int (0 : Int) 0), (Value.int (0 : Int) 0), (Value.int (3 : Int) 0), (Value.ref 83), (Value.bool Bool.true), (Value.int (181 : Int) 0), (Value.ref 84), Value.none, (Value.ref 85), (Value.ref 86), (Value.ref 87), (Value.int (299 : Int) 0), (Value.int (21 : Int) 0), (Value.str (Str.ofString "/claim/cut.py") 300)]), #[]⟩) ::
  ((nat_lit 89), ⟨(Value.type "function"), none, (Data.func ⟨(Str.ofString "bloom_hash"), (Str.ofString "bloom_hash"), A12, FuncBody.stmts (B12), S12, 3, [], Value.none, Value.none, Value.none, (Value.str (Str.ofString "raftkeep.octets") 273), none, (Value.ref 88), Value.none, 0⟩), #[]⟩) ::
  ((nat_lit 97), ⟨(Value.type "tuple"), none, (Data.seq #[] 0), #[]⟩) ::
  ((nat_lit 99), ⟨(Value.type "tuple"), none, (Data.seq #[(Value.str (Str.ofString "self") 325), (Value.str (Str.ofString "bits") 326), (Value.str (Str.ofString "probes") 327)] 0), #[]⟩) ::
  ((nat_lit 100), ⟨(Value.type "tuple"), none, (Data.seq #[] 0), #[]⟩) ::
  ((nat_lit 102), ⟨(Value.type "code"), none, (Data.fields #[(Value.str (Str.ofString "__init__") 322), (Value.str (Str.ofString "Bloom.__init__") 323), (Value.str (Str.ofString "/claim/cut.py") 324), (Value.int (44 : Int) 0), (Value.int (2 : Int) 0), (Value.int (0 : Int) 0), (Value.int (0 : Int) 0), (Value.int (3 : Int) 0), (Value.ref 97), (Value.bool Bool.true), (Value.int (181 : Int) 0), (Value.ref 98), Value.none, (Value.ref 99), (Value.ref 100), (Value.ref 101), (Value.int (328 : Int) 0), (Value.int (44 : Int) 0), (Value.str (Str.ofString "/claim/cut.py") 329)]), #[]⟩) ::
  ((nat_lit 103), ⟨(Value.type "function"), none, (Data.func ⟨(Str.ofString "__init__"), (Str.ofString "Bloom.__init__"), A17x0, FuncBody.stmts (B17x0), S17x0, 3, [], Value.none, Value.none, Value.none, (Value.str (Str.ofString "raftkeep.blocks") 302), none, (Value.ref 102), Value.none, 0⟩), #[]⟩) ::
  ((nat_lit 104), ⟨(Value.type "tuple"), none, (Data.seq #[] 0), #[]⟩) ::
  ((nat_lit 106), ⟨(Value.type "tuple"), none, (Data.seq #[(Value.str (Str.ofString "self") 334), (Value.str (Str.ofString "keys") 335), (Value.str (Str.ofString "wanted") 336), (Value.str (Str.ofString "length") 337), (Value.str (Str.ofString "wide") 338), (Value.str (Str.ofString "out") 339), (Value.str (Str.ofString "key") 340), (Value.str (Str.ofString "h") 341), (Value.str (Str.ofString "delta") 342), (Value.str (Str.ofString "probe") 343), (Value.str (Str.ofString "place") 344)] 0), #[]⟩) ::
  ((nat_lit 107), ⟨(Value.type "tuple"), none, (Data.seq #[] 0), #[]⟩) ::
  ((nat_lit 109), ⟨(Value.type "code"), none, (Data.fields #[(Value.str (Str.ofString "make") 331), (Value.str (Str.ofString "Bloom.make") 332), (Value.str (Str.ofString "/claim/cut.py") 333), (Value.int (55 : Int) 0), (Value.int (2 : Int) 0), (Value.int (0 : Int) 0), (Value.int (0 : Int) 0), (Value.int (3 : Int) 0), (Value.ref 104), (Value.bool Bool.true), (Value.int (181 : Int) 0), (Value.ref 105), Value.none, (Value.ref 106), (Value.ref 107), (Value.ref 108), (Value.int (345 : Int) 0), (Value.int (55 : Int) 0), (Value.str (Str.ofString "/claim/cut.py") 346)]), #[]⟩) ::
  ((nat_lit 110), ⟨(Value.type "function"), none, (Data.func ⟨(Str.ofString "make"), (Str.ofString "Bloom.make"), A17x1, FuncBody.stmts (B17x1), S17x1, 3, [], Value.none, Value.none, Value.none, (Value.str (Str.ofString "raftkeep.blocks") 302), none, (Value.ref 109), Value.none, 0⟩), #[]⟩) ::
  ((nat_lit 111), ⟨(Value.type "tuple"), none, (Data.seq #[] 0), #[]⟩) ::
  ((nat_lit 113), ⟨(Value.type "tuple"), none, (Data.seq #[(Value.str (Str.ofString "self") 351), (Value.str (Str.ofString "key") 352), (Value.str (Str.ofString "held") 353), (Value.str (Str.ofString "probes") 354), (Value.str (Str.ofString "wide") 355), (Value.str (Str.ofString "h") 356), (Value.str (Str.ofString "delta") 357), (Value.str (Str.ofString "probe") 358), (Value.str (Str.ofString "place") 359)] 0), #[]⟩) ::
  ((nat_lit 114), ⟨(Value.type "tuple"), none, (Data.seq #[] 0), #[]⟩) ::
  ((nat_lit 116), ⟨(Value.type "code"), none, (Data.fields #[(Value.str (Str.ofString "may_have") 348), (Value.str (Str.ofString "Bloom.may_have") 349), (Value.str (Str.ofString "/claim/cut.py") 350), (Value.int (72 : Int) 0), (Value.int (3 : Int) 0), (Value.int (0 : Int) 0), (Value.int (0 : Int) 0), (Value.int (3 : Int) 0), (Value.ref 111), (Value.bool Bool.true), (Value.int (181 : Int) 0), (Value.ref 112), Value.none, (Value.ref 113), (Value.ref 114), (Value.ref 115), (Value.int (360 : Int) 0), (Value.int (72 : Int) 0), (Value.str (Str.ofString "/claim/cut.py") 361)]), #[]⟩) ::
  ((nat_lit 117), ⟨(Value.type "function"), none, (Data.func ⟨(Str.ofString "may_have"), (Str.ofString "Bloom.may_have"), A17x2, FuncBody.stmts (B17x2), S17x2, 3, [], Value.none, Value.none, Value.none, (Value.str (Str.ofString "raftkeep.blocks") 302), none, (Value.ref 116), Value.none, 0⟩), #[]⟩) ::
  ((nat_lit 118), ⟨(Value.type "tuple"), none, (Data.seq #[(Value.str (Str.ofString "bits") 363), (Value.str (Str.ofString "probes") 364)] 0), #[]⟩) ::
  ((nat_lit 119), ⟨(Value.type "dict"), none, (Data.dict #[⟨(PyData.keyHash P (Str.ofString "__module__")), (Value.str (Str.ofString "__module__") 317), (Value.str (Str.ofString "raftkeep.blocks") 302)⟩, ⟨(PyData.keyHash P (Str.ofString "__firstlineno__")), (Value.str (Str.ofString "__firstlineno__") 321), (Value.int (42 : Int) 320)⟩, ⟨(PyData.keyHash P (Str.ofString "__init__")), (Value.str (Str.ofString "__init__") 330), (Value.ref 103)⟩, ⟨(PyData.keyHash P (Str.ofString "make")), (Value.str (Str.ofString "make") 347), (Value.ref 110)⟩, ⟨(PyData.keyHash P (Str.ofString "may_have")), (Value.str (Str.ofString "may_have") 362), (Value.ref 117)⟩, ⟨(PyData.keyHash P (Str.ofString "__static_attributes__")), (Value.str (Str.ofString "__static_attributes__") 365), (Value.ref 118)⟩, ⟨(PyData.keyHash P (Str.ofString "__dict__")), (Value.str (Str.ofString "__dict__") 367), (Value.ref 121)⟩, ⟨(PyData.keyHash P (Str.ofString "__weakref__")), (Value.str (Str.ofString "__weakref__") 369), (Value.ref 122)⟩, ⟨(PyData.keyHash P (Str.ofString "__doc__")), (Value.str (Str.ofString "__doc__") 370), Value.none⟩] 4), #[]⟩) ::
  ((nat_lit 120), ⟨(Value.type "type"), none, (Data.cls ⟨(Str.ofString "Bloom"), [(Value.type "object")], [(Value.ref 120), (Value.type "object")], 119, (Str.ofString "Bloom"), Bool.true, [], [], Bool.false, none, Bool.false⟩), #[none, none, (some (Value.str (Str.ofString "Bloom") 310)), (some (Value.str (Str.ofString "Bloom") 318)), (some (Value.builtin "object.__new__")), (some (Value.bool Bool.true))]⟩) ::
  ((nat_lit 121), ⟨(Value.type "getset_descriptor"), none, (Data.fields #[(Value.str (Str.ofString "__dict__") 366), (Value.ref 120), (Value.builtin "function.__dict__"), (Value.builtin "function.__dict__#set")]), #[]⟩) ::
  ((nat_lit 122), ⟨(Value.type "getset_descriptor"), none, (Data.fields #[(Value.str (Str.ofString "__weakref__") 368), (Value.ref 120), (Value.builtin "ExceptionGroup.__weakref__"), Value.none]), #[]⟩) ::
  ((nat_lit 125), ⟨(Value.type "tuple"), none, (Data.seq #[] 0), #[]⟩) ::
  ((nat_lit 127), ⟨(Value.type "tuple"), none, (Data.seq #[(Value.str (Str.ofString "nums") 378), (Value.str (Str.ofString "i") 379)] 0), #[]⟩) ::
  ((nat_lit 128), ⟨(Value.type "tuple"), none, (Data.seq #[] 0), #[]⟩) ::
  ((nat_lit 130), ⟨(Value.type "code"), none, (Data.fields #[(Value.str (Str.ofString "_law_draw") 375), (Value.str (Str.ofString "_law_draw") 376), (Value.str (Str.ofString "/claim/cut.py") 377), (Value.int (88 : Int) 0), (Value.int (2 : Int) 0), (Value.int (0 : Int) 0), (Value.int (0 : Int) 0), (Value.int (3 : Int) 0), (Value.ref 125), (Value.bool Bool.true), (Value.int (181 : Int) 0), (Value.ref 126), Value.none, (Value.ref 127), (Value.ref 128), (Value.ref 129), (Value.int (380 : Int) 0), (Value.int (88 : Int) 0), (Value.str (Str.ofString "/claim/cut.py") 381)]), #[]⟩) ::
  ((nat_lit 131), ⟨(Value.type "function"), none, (Data.func ⟨(Str.ofString "_law_draw"), (Str.ofString "_law_draw"), A19, FuncBody.stmts (B19), S19, 3, [], Value.none, Value.none, Value.none, (Value.str (Str.ofString "law_xm0845_01") 373), none, (Value.ref 130), Value.none, 0⟩), #[]⟩) ::
  ((nat_lit 132), ⟨(Value.type "tuple"), none, (Data.seq #[] 0), #[]⟩) ::
  ((nat_lit 134), ⟨(Value.type "tuple"), none, (Data.seq #[(Value.str (Str.ofString "y") 386), (Value.str (Str.ofString "size") 387), (Value.str (Str.ofString "tail") 388)] 0), #[]⟩) ::
  ((nat_lit 135), ⟨(Value.type "tuple"), none, (Data.seq #[] 0), #[]⟩) ::
  ((nat_lit 137), ⟨(Value.type "code"), none, (Data.fields #[(Value.str (Str.ofString "_law_word") 383), (Value.str (Str.ofString "_law_word") 384), (Value.str (Str.ofString "/claim/cut.py") 385), (Value.int (90 : Int) 0), (Value.int (1 : Int) 0), (Value.int (0 : Int) 0), (Value.int (0 : Int) 0), (Value.int (3 : Int) 0), (Value.ref 132), (Value.bool Bool.true), (Value.int (181 : Int) 0), (Value.ref 133), Value.none, (Value.ref 134), (Value.ref 135), (Value.ref 136), (Value.int (389 : Int) 0), (Value.int (90 : Int) 0), (Value.str (Str.ofString "/claim/cut.py") 390)]), #[]⟩) ::
  ((nat_lit 138), ⟨(Value.type "function"), none, (Data.func ⟨(Str.ofString "_law_word"), (Str.ofString "_law_word"), A20, FuncBody.stmts (B20), S20, 3, [], Value.none, Value.none, Value.none, (Value.str (Str.ofString "law_xm0845_01") 373), none, (Value.ref 137), Value.none, 0⟩), #[]⟩) ::
  ((nat_lit 139), ⟨(Value.type "tuple"), none, (Data.seq #[] 0), #[]⟩) ::
  ((nat_lit 142), ⟨(Value.type "code"), none, (Data.fields #[(Value.str (Str.ofString "_law_spots") 392), (Value.str (Str.ofString "_law_spots") 393), (Value.str (Str.ofString "/claim/cut.py") 394), (Value.int (94 : Int) 0), (Value.int (3 : Int) 0), (Value.int (0 : Int) 0), (Value.int (0 : Int) 0), (Value.int (3 : Int) 0), (Value.ref 139), (Value.bool Bool.true), (Value.int (181 : Int) 0), (Value.ref 140), Value.none, Value.none, Value.none, (Value.ref 141), (Value.int (395 : Int) 0), (Value.int (94 : Int) 0), (Value.str (Str.ofString "/claim/cut.py") 396)]), #[]⟩) ::
  ((nat_lit 143), ⟨(Value.type "function"), none, (Data.func ⟨(Str.ofString "_law_spots"), (Str.ofString "_law_spots"), A21, FuncBody.stmts (B21), S21, 3, [], Value.none, Value.none, Value.none, (Value.str (Str.ofString "law_xm0845_01") 373), none, (Value.ref 142), Value.none, 0⟩), #[]⟩) ::
  ((nat_lit 144), ⟨(Value.type "tuple"), none, (Data.seq #[] 0), #[]⟩) ::
  ((nat_lit 146), ⟨(Value.type "tuple"), none, (Data.seq #[(Value.str (Str.ofString "rows") 401), (Value.str (Str.ofString "octets") 402), (Value.str (Str.ofString "probes") 403), (Value.str (Str.ofString "places") 404), (Value.str (Str.ofString "spots") 405), (Value.str (Str.ofString "lit") 406), (Value.str (Str.ofString "before") 407), (Value.str (Str.ofString "place") 408)] 0), #[]⟩) ::
  ((nat_lit 147), ⟨(Value.type "tuple"), none, (Data.seq #[] 0), #[]⟩) ::
  ((nat_lit 149), ⟨(Value.type "code"), none, (Data.fields #[(Value.str (Str.ofString "_law_filter") 398), (Value.str (Str.ofString "_law_filter") 399), (Value.str (Str.ofString "/claim/cut.py") 400), (Value.int (102 : Int) 0), (Value.int (3 : Int) 0), (Value.int (0 : Int) 0), (Value.int (0 : Int) 0), (Value.int (3 : Int) 0), (Value.ref 144), (Value.bool Bool.true), (Value.int (181 : Int) 0), (Value.ref 145), Value.none, (Value.ref 146), (Value.ref 147), (Value.ref 148), (Value.int (409 : Int) 0), (Value.int (102 : Int) 0), (Value.str (Str.ofString "/claim/cut.py") 410)]), #[]⟩) ::
  ((nat_lit 150), ⟨(Value.type "function"), none, (Data.func ⟨(Str.ofString "_law_filter"), (Str.ofString "_law_filter"), A22, FuncBody.stmts (B22), S22, 3, [], Value.none, Value.none, Value.none, (Value.str (Str.ofString "law_xm0845_01") 373), none, (Value.ref 149), Value.none, 0⟩), #[]⟩) ::
  ((nat_lit 151), ⟨(Value.type "tuple"), none, (Data.seq #[] 0), #[]⟩) ::
  ((nat_lit 154), ⟨(Value.type "code"), none, (Data.fields #[(Value.str (Str.ofString "law") 412), (Value.str (Str.ofString "law") 413), (Value.str (Str.ofString "/claim/cut.py") 414), (Value.int (113 : Int) 0), (Value.int (1 : Int) 0), (Value.int (0 : Int) 0), (Value.int (0 : Int) 0), (Value.int (3 : Int) 0), (Value.ref 151), (Value.bool Bool.true), (Value.int (181 : Int) 0), (Value.ref 152), Value.none, Value.none, Value.none, (Value.ref 153), (Value.int (415 : Int) 0), (Value.int (113 : Int) 0), (Value.str (Str.ofString "/claim/cut.py") 416)]), #[]⟩) ::
  ((nat_lit 155), ⟨(Value.type "function"), none, (Data.func ⟨(Str.ofString "law"), (Str.ofString "law"), A23, FuncBody.stmts (B23), S23, 3, [], Value.none, Value.none, Value.none, (Value.str (Str.ofString "law_xm0845_01") 373), none, (Value.ref 154), Value.none, 0⟩), #[]⟩) :: []) _ _ _ ⟨rfl, rfl, rfl⟩ _ _ _ ⟨rfl, rfl, rfl⟩ _ _ _ ⟨rfl, rfl, rfl⟩ _ _ _ ⟨rfl, rfl, rfl⟩ _ _ _ ⟨rfl, rfl, rfl⟩ _ _ _ ⟨rfl, rfl, rfl⟩ _ _ _ ⟨rfl, rfl, rfl⟩ _ _ _ ⟨rfl, rfl, rfl⟩ _ _ _ ⟨rfl, rfl, rfl⟩ _ _ _ ⟨rfl, rfl, rfl⟩
/-! the boot in pieces: the objects and the states between (printed by wip/GenHd2.lean and mkpieces.py) -/
def pA {o : Option Stmt} {A : Arguments} {B : List Stmt} {S : Scope} (_ : IsDef o A B S) : Arguments := A
def pB {o : Option Stmt} {A : Arguments} {B : List Stmt} {S : Scope} (_ : IsDef o A B S) : List Stmt := B
def pS {o : Option Stmt} {A : Arguments} {B : List Stmt} {S : Scope} (_ : IsDef o A B S) : Scope := S
noncomputable def pA12 : Arguments := pA (o := topAt 12) ⟨rfl, rfl, rfl⟩
noncomputable def pB12 : List Stmt := pB (o := topAt 12) ⟨rfl, rfl, rfl⟩
noncomputable def pS12 : Scope := pS (o := topAt 12) ⟨rfl, rfl, rfl⟩
noncomputable def pA11 : Arguments := pA (o := topAt 11) ⟨rfl, rfl, rfl⟩
noncomputable def pB11 : List Stmt := pB (o := topAt 11) ⟨rfl, rfl, rfl⟩
noncomputable def pS11 : Scope := pS (o := topAt 11) ⟨rfl, rfl, rfl⟩
noncomputable def pA21 : Arguments := pA (o := topAt 21) ⟨rfl, rfl, rfl⟩
noncomputable def pB21 : List Stmt := pB (o := topAt 21) ⟨rfl, rfl, rfl⟩
noncomputable def pS21 : Scope := pS (o := topAt 21) ⟨rfl, rfl, rfl⟩
noncomputable def pA17x0 : Arguments := pA (o := inAt 17 0) ⟨rfl, rfl, rfl⟩
noncomputable def pB17x0 : List Stmt := pB (o := inAt 17 0) ⟨rfl, rfl, rfl⟩
noncomputable def pS17x0 : Scope := pS (o := inAt 17 0) ⟨rfl, rfl, rfl⟩
noncomputable def pA19 : Arguments := pA (o := topAt 19) ⟨rfl, rfl, rfl⟩
noncomputable def pB19 : List Stmt := pB (o := topAt 19) ⟨rfl, rfl, rfl⟩
noncomputable def pS19 : Scope := pS (o := topAt 19) ⟨rfl, rfl, rfl⟩
noncomputable def pA17x2 : Arguments := pA (o := inAt 17 2) ⟨rfl, rfl, rfl⟩
noncomputable def pB17x2 : List Stmt := pB (o := inAt 17 2) ⟨rfl, rfl, rfl⟩
noncomputable def pS17x2 : Scope := pS (o := inAt 17 2) ⟨rfl, rfl, rfl⟩
noncomputable def pA20 : Arguments := pA (o := topAt 20) ⟨rfl, rfl, rfl⟩
noncomputable def pB20 : List Stmt := pB (o := topAt 20) ⟨rfl, rfl, rfl⟩
noncomputable def pS20 : Scope := pS (o := topAt 20) ⟨rfl, rfl, rfl⟩
noncomputable def pA17x1 : Arguments := pA (o := inAt 17 1) ⟨rfl, rfl, rfl⟩
noncomputable def pB17x1 : List Stmt := pB (o := inAt 17 1) ⟨rfl, rfl, rfl⟩
noncomputable def pS17x1 : Scope := pS (o := inAt 17 1) ⟨rfl, rfl, rfl⟩
noncomputable def pA23 : Arguments := pA (o := topAt 23) ⟨rfl, rfl, rfl⟩
noncomputable def pB23 : List Stmt := pB (o := topAt 23) ⟨rfl, rfl, rfl⟩
noncomputable def pS23 : Scope := pS (o := topAt 23) ⟨rfl, rfl, rfl⟩
noncomputable def pA22 : Arguments := pA (o := topAt 22) ⟨rfl, rfl, rfl⟩
noncomputable def pB22 : List Stmt := pB (o := topAt 22) ⟨rfl, rfl, rfl⟩
noncomputable def pS22 : Scope := pS (o := topAt 22) ⟨rfl, rfl, rfl⟩
noncomputable def hd.env_41 : Env := ⟨(Module.scope (Program.main ((OpenRow.toRowW (OpenLaw.row Challenge.rw_xm0845_01))).prog)), mainNs, mainNs, [], Str.empty, none, (Value.ref 13), (some (@OfNat.ofNat Addr (nat_lit 14) (instOfNatNat (nat_lit 14)))), (@OfNat.ofNat Addr (nat_lit 0) (instOfNatNat (nat_lit 0)))⟩
noncomputable def hd.o_43 : (Params → Obj) := (fun (P : Params) => ⟨(Value.type "tuple"), none, (Data.seq #[] 0), #[]⟩)
noncomputable def hd.o_44 : (Params → Obj) := (fun (P : Params) => ⟨Value.none, none, (Data.fields #[]), #[]⟩)
noncomputable def hd.o_45 : (Params → Obj) := (fun (P : Params) => ⟨(Value.type "code"), none, (Data.fields #[(Value.str (Str.ofString "<module>") 182), (Value.str (Str.ofString "<module>") 183), (Value.str (Str.ofString "/claim/cut.py") 184), (Value.int (1 : Int) 0), (Value.int (0 : Int) 0), (Value.int (0 : Int) 0), (Value.int (0 : Int) 0), (Value.int (0 : Int) 0), (Value.ref 11), (Value.bool Bool.false), (Value.int (181 : Int) 0), (Value.ref 12), Value.none, Value.none, Value.none, Value.none, (Value.int (185 : Int) 0), (Value.int (1 : Int) 0), (Value.str (Str.ofString "/claim/cut.py") 186)]), #[]⟩)
noncomputable def hd.o_46 : (Params → Obj) := (fun (P : Params) => ⟨(Value.type "frame"), none, Data.plain, #[(some (Value.ref 13)), (some (Value.ref 3)), (some (Value.ref 3)), none, (some (Value.str (Str.ofString "__main__") 164)), none, (some (Value.ref 0))]⟩)
noncomputable def hd.heap_46 : (Params → Heap) := (fun (P : Params) => ⟨(@Array.mk Obj [(boot_o_0 P), (boot_o_1 P), (boot_o_2 P), (boot_o_3 P), (boot_o_4 P), (boot_o_5 P), (boot_o_6 P), (boot_o_7 P), (boot_o_8 P), (boot_o_9 P), (boot_o_10 P), (hd.o_43 P), (hd.o_44 P), (hd.o_45 P), (hd.o_46 P)]), ⟨[], [], [], 0, [], [], Bool.false, #[], [], 0, Bool.false, Bool.false, Bool.false, (0 : Int), [(2000 : Int), (10 : Int), (10 : Int)], Bool.false, 0, Bool.true, [], [], 0, Bool.false⟩⟩)
noncomputable def hd.tree_47 : (Params → BT) := (fun (P : Params) => (BT.node (boot_o_0 P) (BT.node (boot_o_1 P) (BT.node (boot_o_3 P) (BT.node (boot_o_7 P) BT.nil BT.nil) (BT.node (hd.o_43 P) BT.nil BT.nil)) (BT.node (boot_o_5 P) (BT.node (boot_o_9 P) BT.nil BT.nil) (BT.node (hd.o_45 P) BT.nil BT.nil))) (BT.node (boot_o_2 P) (BT.node (boot_o_4 P) (BT.node (boot_o_8 P) BT.nil BT.nil) (BT.node (hd.o_44 P) BT.nil BT.nil)) (BT.node (boot_o_6 P) (BT.node (boot_o_10 P) BT.nil BT.nil) (BT.node (hd.o_46 P) BT.nil BT.nil)))))
noncomputable def hd.o_50 : (Params → Obj) := (fun (P : Params) => ⟨(Value.type "dict"), none, (Data.dict #[⟨(PyData.keyHash P (Str.ofString "__name__")), (Value.str (Str.ofString "__name__") 165), (Value.str (Str.ofString "raftkeep.errors") 187)⟩, ⟨(PyData.keyHash P (Str.ofString "__doc__")), (Value.str (Str.ofString "__doc__") 166), Value.none⟩, ⟨(PyData.keyHash P (Str.ofString "__package__")), (Value.str (Str.ofString "__package__") 167), Value.none⟩, ⟨(PyData.keyHash P (Str.ofString "__loader__")), (Value.str (Str.ofString "__loader__") 168), (Value.builtin "__main__.__loader__#opaque")⟩, ⟨(PyData.keyHash P (Str.ofString "__spec__")), (Value.str (Str.ofString "__spec__") 169), Value.none⟩, ⟨(PyData.keyHash P (Str.ofString "__annotations__")), (Value.str (Str.ofString "__annotations__") 170), (Value.ref 6)⟩, ⟨(PyData.keyHash P (Str.ofString "__builtins__")), (Value.str (Str.ofString "__builtins__") 171), (Value.ref 4)⟩, ⟨(PyData.keyHash P (Str.ofString "__file__")), (Value.str (Str.ofString "__file__") 173), (Value.str (Str.ofString "/claim/cut.py") 172)⟩, ⟨(PyData.keyHash P (Str.ofString "__cached__")), (Value.str (Str.ofString "__cached__") 174), Value.none⟩, ⟨(PyData.keyHash P (Str.ofString "KeepError")), (Value.str (Str.ofString "KeepError") 208), (Value.ref 24)⟩] 10), #[]⟩)
noncomputable def hd.o_52 : (Params → Obj) := (fun (P : Params) => ⟨(Value.type "tuple"), none, (Data.seq #[(Value.type "Exception")] 0), #[]⟩)
noncomputable def hd.o_60 : (Params → Obj) := (fun (P : Params) => ⟨(Value.type "dict"), none, (Data.dict #[⟨(PyData.keyHash P (Str.ofString "__module__")), (Value.str (Str.ofString "__module__") 196), (Value.str (Str.ofString "raftkeep.errors") 187)⟩, ⟨(PyData.keyHash P (Str.ofString "__firstlineno__")), (Value.str (Str.ofString "__firstlineno__") 200), (Value.int (2 : Int) 199)⟩, ⟨(PyData.keyHash P (Str.ofString "__static_attributes__")), (Value.str (Str.ofString "__static_attributes__") 201), (Value.ref 22)⟩, ⟨(PyData.keyHash P (Str.ofString "__weakref__")), (Value.str (Str.ofString "__weakref__") 203), (Value.ref 25)⟩, ⟨(PyData.keyHash P (Str.ofString "__doc__")), (Value.str (Str.ofString "__doc__") 204), Value.none⟩] 3), #[]⟩)
noncomputable def hd.o_56 : (Params → Obj) := (fun (P : Params) => ⟨Value.none, none, (Data.fields #[]), #[]⟩)
noncomputable def hd.o_64 : (Params → Obj) := (fun (P : Params) => ⟨(Value.type "builtin_function_or_method"), none, (Data.fields #[(Value.builtin "object.__init_subclass__"), (Value.ref 24)]), #[]⟩)
noncomputable def hd.o_54 : (Params → Obj) := (fun (P : Params) => ⟨(Value.type "dict"), none, (Data.dict #[⟨(PyData.keyHash P (Str.ofString "__module__")), (Value.str (Str.ofString "__module__") 196), (Value.str (Str.ofString "raftkeep.errors") 187)⟩, ⟨(PyData.keyHash P (Str.ofString "__qualname__")), (Value.str (Str.ofString "__qualname__") 198), (Value.str (Str.ofString "KeepError") 197)⟩, ⟨(PyData.keyHash P (Str.ofString "__firstlineno__")), (Value.str (Str.ofString "__firstlineno__") 200), (Value.int (2 : Int) 199)⟩, ⟨(PyData.keyHash P (Str.ofString "__static_attributes__")), (Value.str (Str.ofString "__static_attributes__") 201), (Value.ref 22)⟩] 4), #[]⟩)
noncomputable def hd.o_62 : (Params → Obj) := (fun (P : Params) => ⟨(Value.type "getset_descriptor"), none, (Data.fields #[(Value.str (Str.ofString "__weakref__") 202), (Value.ref 24), (Value.builtin "ExceptionGroup.__weakref__"), Value.none]), #[]⟩)
noncomputable def hd.o_58 : (Params → Obj) := (fun (P : Params) => ⟨(Value.type "frame"), none, Data.plain, #[(some (Value.ref 20)), (some (Value.ref 3)), (some (Value.ref 17)), none, (some (Value.str (Str.ofString "raftkeep.errors") 187)), none, (some (Value.ref 0))]⟩)
noncomputable def hd.o_49 : (Params → Obj) := (fun (P : Params) => ⟨Value.none, none, (Data.dict #[⟨(PyData.keyHash P (Str.ofString "type.__subclasses__.Exception.0")), (Value.str (Str.ofString "type.__subclasses__.Exception.0") 205), (Value.int (24 : Int) 0)⟩, ⟨(PyData.keyHash P (Str.ofString "type.__subclasses__.Exception.n")), (Value.str (Str.ofString "type.__subclasses__.Exception.n") 206), (Value.int (1 : Int) 0)⟩] 2), #[]⟩)
noncomputable def hd.o_53 : (Params → Obj) := (fun (P : Params) => ⟨(Value.type "builtin_function_or_method"), none, (Data.fields #[(Value.builtin "type.__prepare__"), (Value.type "type")]), #[]⟩)
noncomputable def hd.o_61 : (Params → Obj) := (fun (P : Params) => ⟨(Value.type "type"), none, (Data.cls ⟨(Str.ofString "KeepError"), [(Value.type "Exception")], [(Value.ref 24), (Value.type "Exception"), (Value.type "BaseException"), (Value.type "object")], 23, (Str.ofString "KeepError"), Bool.true, [], [], Bool.false, none, Bool.false⟩), #[(some (Value.ref 15)), none, (some (Value.str (Str.ofString "KeepError") 189)), (some (Value.str (Str.ofString "KeepError") 197)), (some (Value.builtin "Exception.__new__")), (some (Value.bool Bool.true))]⟩)
noncomputable def hd.o_51 : (Params → Obj) := (fun (P : Params) => ⟨Value.none, none, (Data.fields #[(Value.int (2 : Int) 0), (Value.int (0 : Int) 0), (Value.ref 20)]), #[]⟩)
noncomputable def hd.o_57 : (Params → Obj) := (fun (P : Params) => ⟨(Value.type "code"), none, (Data.fields #[(Value.str (Str.ofString "KeepError") 191), (Value.str (Str.ofString "KeepError") 192), (Value.str (Str.ofString "/claim/cut.py") 193), (Value.int (2 : Int) 0), (Value.int (0 : Int) 0), (Value.int (0 : Int) 0), (Value.int (0 : Int) 0), (Value.int (0 : Int) 0), (Value.ref 18), (Value.bool Bool.false), (Value.int (181 : Int) 0), (Value.ref 19), Value.none, Value.none, Value.none, Value.none, (Value.int (194 : Int) 0), (Value.int (2 : Int) 0), (Value.str (Str.ofString "/claim/cut.py") 195)]), #[]⟩)
noncomputable def hd.o_55 : (Params → Obj) := (fun (P : Params) => ⟨(Value.type "tuple"), none, (Data.seq #[] 0), #[]⟩)
noncomputable def hd.o_63 : (Params → Obj) := (fun (P : Params) => ⟨(Value.type "super"), none, (Data.fields #[(Value.ref 24), (Value.ref 24), (Value.ref 24)]), #[]⟩)
noncomputable def hd.o_59 : (Params → Obj) := (fun (P : Params) => ⟨(Value.type "tuple"), none, (Data.seq #[] 0), #[]⟩)
noncomputable def hd.tree_64 : (Params → BT) := (fun (P : Params) => (BT.node (boot_o_0 P) (BT.node (boot_o_1 P) (BT.node (hd.o_50 P) (BT.node (boot_o_7 P) (BT.node (hd.o_52 P) BT.nil BT.nil) (BT.node (hd.o_60 P) BT.nil BT.nil)) (BT.node (hd.o_43 P) (BT.node (hd.o_56 P) BT.nil BT.nil) (BT.node (hd.o_64 P) BT.nil BT.nil))) (BT.node (boot_o_5 P) (BT.node (boot_o_9 P) (BT.node (hd.o_54 P) BT.nil BT.nil) (BT.node (hd.o_62 P) BT.nil BT.nil)) (BT.node (hd.o_45 P) (BT.node (hd.o_58 P) BT.nil BT.nil) BT.nil))) (BT.node (hd.o_49 P) (BT.node (boot_o_4 P) (BT.node (boot_o_8 P) (BT.node (hd.o_53 P) BT.nil BT.nil) (BT.node (hd.o_61 P) BT.nil BT.nil)) (BT.node (hd.o_51 P) (BT.node (hd.o_57 P) BT.nil BT.nil) BT.nil)) (BT.node (boot_o_6 P) (BT.node (boot_o_10 P) (BT.node (hd.o_55 P) BT.nil BT.nil) (BT.node (hd.o_63 P) BT.nil BT.nil)) (BT.node (hd.o_46 P) (BT.node (hd.o_59 P) BT.nil BT.nil) BT.nil)))))
noncomputable def hd.o_65 : (Params → Obj) := (fun (P : Params) => ⟨(Value.type "dict"), none, (Data.dict #[⟨(PyData.keyHash P (Str.ofString "__name__")), (Value.str (Str.ofString "__name__") 165), (Value.str (Str.ofString "raftkeep.errors") 187)⟩, ⟨(PyData.keyHash P (Str.ofString "__doc__")), (Value.str (Str.ofString "__doc__") 166), Value.none⟩, ⟨(PyData.keyHash P (Str.ofString "__package__")), (Value.str (Str.ofString "__package__") 167), Value.none⟩, ⟨(PyData.keyHash P (Str.ofString "__loader__")), (Value.str (Str.ofString "__loader__") 168), (Value.builtin "__main__.__loader__#opaque")⟩, ⟨(PyData.keyHash P (Str.ofString "__spec__")), (Value.str (Str.ofString "__spec__") 169), Value.none⟩, ⟨(PyData.keyHash P (Str.ofString "__annotations__")), (Value.str (Str.ofString "__annotations__") 170), (Value.ref 6)⟩, ⟨(PyData.keyHash P (Str.ofString "__builtins__")), (Value.str (Str.ofString "__builtins__") 171), (Value.ref 4)⟩, ⟨(PyData.keyHash P (Str.ofString "__file__")), (Value.str (Str.ofString "__file__") 173), (Value.str (Str.ofString "/claim/cut.py") 172)⟩, ⟨(PyData.keyHash P (Str.ofString "__cached__")), (Value.str (Str.ofString "__cached__") 174), Value.none⟩, ⟨(PyData.keyHash P (Str.ofString "KeepError")), (Value.str (Str.ofString "KeepError") 208), (Value.ref 24)⟩, ⟨(PyData.keyHash P (Str.ofString "StoreError")), (Value.str (Str.ofString "StoreError") 224), (Value.ref 37)⟩] 11), #[]⟩)
noncomputable def hd.o_71 : (Params → Obj) := (fun (P : Params) => ⟨(Value.type "tuple"), none, (Data.seq #[] 0), #[]⟩)
noncomputable def hd.o_79 : (Params → Obj) := (fun (P : Params) => ⟨(Value.type "builtin_function_or_method"), none, (Data.fields #[(Value.builtin "object.__init_subclass__"), (Value.ref 37)]), #[]⟩)
noncomputable def hd.o_75 : (Params → Obj) := (fun (P : Params) => ⟨(Value.type "tuple"), none, (Data.seq #[] 0), #[]⟩)
noncomputable def hd.o_73 : (Params → Obj) := (fun (P : Params) => ⟨(Value.type "code"), none, (Data.fields #[(Value.str (Str.ofString "StoreError") 211), (Value.str (Str.ofString "StoreError") 212), (Value.str (Str.ofString "/claim/cut.py") 213), (Value.int (4 : Int) 0), (Value.int (0 : Int) 0), (Value.int (0 : Int) 0), (Value.int (0 : Int) 0), (Value.int (0 : Int) 0), (Value.ref 31), (Value.bool Bool.false), (Value.int (181 : Int) 0), (Value.ref 32), Value.none, Value.none, Value.none, Value.none, (Value.int (214 : Int) 0), (Value.int (4 : Int) 0), (Value.str (Str.ofString "/claim/cut.py") 215)]), #[]⟩)
noncomputable def hd.o_77 : (Params → Obj) := (fun (P : Params) => ⟨(Value.type "type"), none, (Data.cls ⟨(Str.ofString "StoreError"), [(Value.ref 24)], [(Value.ref 37), (Value.ref 24), (Value.type "Exception"), (Value.type "BaseException"), (Value.type "object")], 36, (Str.ofString "StoreError"), Bool.true, [], [], Bool.false, none, Bool.false⟩), #[(some (Value.ref 28)), none, (some (Value.str (Str.ofString "StoreError") 209)), (some (Value.str (Str.ofString "StoreError") 217)), (some (Value.builtin "Exception.__new__")), (some (Value.bool Bool.true))]⟩)
noncomputable def hd.o_69 : (Params → Obj) := (fun (P : Params) => ⟨(Value.type "builtin_function_or_method"), none, (Data.fields #[(Value.builtin "type.__prepare__"), (Value.type "type")]), #[]⟩)
noncomputable def hd.o_72 : (Params → Obj) := (fun (P : Params) => ⟨Value.none, none, (Data.fields #[]), #[]⟩)
noncomputable def hd.o_67 : (Params → Obj) := (fun (P : Params) => ⟨(Value.type "type"), none, (Data.cls ⟨(Str.ofString "KeepError"), [(Value.type "Exception")], [(Value.ref 24), (Value.type "Exception"), (Value.type "BaseException"), (Value.type "object")], 23, (Str.ofString "KeepError"), Bool.true, [], [(Value.ref 37)], Bool.false, none, Bool.false⟩), #[(some (Value.ref 15)), none, (some (Value.str (Str.ofString "KeepError") 189)), (some (Value.str (Str.ofString "KeepError") 197)), (some (Value.builtin "Exception.__new__")), (some (Value.bool Bool.true))]⟩)
noncomputable def hd.o_66 : (Params → Obj) := (fun (P : Params) => ⟨Value.none, none, (Data.fields #[(Value.int (2 : Int) 0), (Value.int (0 : Int) 0), (Value.ref 20), (Value.int (4 : Int) 0), (Value.int (0 : Int) 0), (Value.ref 33)]), #[]⟩)
noncomputable def hd.o_76 : (Params → Obj) := (fun (P : Params) => ⟨(Value.type "dict"), none, (Data.dict #[⟨(PyData.keyHash P (Str.ofString "__module__")), (Value.str (Str.ofString "__module__") 216), (Value.str (Str.ofString "raftkeep.errors") 187)⟩, ⟨(PyData.keyHash P (Str.ofString "__firstlineno__")), (Value.str (Str.ofString "__firstlineno__") 220), (Value.int (4 : Int) 219)⟩, ⟨(PyData.keyHash P (Str.ofString "__static_attributes__")), (Value.str (Str.ofString "__static_attributes__") 221), (Value.ref 35)⟩, ⟨(PyData.keyHash P (Str.ofString "__doc__")), (Value.str (Str.ofString "__doc__") 222), Value.none⟩] 2), #[]⟩)
noncomputable def hd.o_68 : (Params → Obj) := (fun (P : Params) => ⟨(Value.type "tuple"), none, (Data.seq #[(Value.ref 24)] 0), #[]⟩)
noncomputable def hd.o_74 : (Params → Obj) := (fun (P : Params) => ⟨(Value.type "frame"), none, Data.plain, #[(some (Value.ref 33)), (some (Value.ref 3)), (some (Value.ref 30)), none, (some (Value.str (Str.ofString "raftkeep.errors") 187)), none, (some (Value.ref 0))]⟩)
noncomputable def hd.o_78 : (Params → Obj) := (fun (P : Params) => ⟨(Value.type "super"), none, (Data.fields #[(Value.ref 37), (Value.ref 37), (Value.ref 37)]), #[]⟩)
noncomputable def hd.o_70 : (Params → Obj) := (fun (P : Params) => ⟨(Value.type "dict"), none, (Data.dict #[⟨(PyData.keyHash P (Str.ofString "__module__")), (Value.str (Str.ofString "__module__") 216), (Value.str (Str.ofString "raftkeep.errors") 187)⟩, ⟨(PyData.keyHash P (Str.ofString "__qualname__")), (Value.str (Str.ofString "__qualname__") 218), (Value.str (Str.ofString "StoreError") 217)⟩, ⟨(PyData.keyHash P (Str.ofString "__firstlineno__")), (Value.str (Str.ofString "__firstlineno__") 220), (Value.int (4 : Int) 219)⟩, ⟨(PyData.keyHash P (Str.ofString "__static_attributes__")), (Value.str (Str.ofString "__static_attributes__") 221), (Value.ref 35)⟩] 4), #[]⟩)
noncomputable def hd.tree_79 : (Params → BT) := (fun (P : Params) => (BT.node (boot_o_0 P) (BT.node (boot_o_1 P) (BT.node (hd.o_65 P) (BT.node (boot_o_7 P) (BT.node (hd.o_52 P) (BT.node (hd.o_71 P) BT.nil BT.nil) BT.nil) (BT.node (hd.o_60 P) (BT.node (hd.o_79 P) BT.nil BT.nil) BT.nil)) (BT.node (hd.o_43 P) (BT.node (hd.o_56 P) (BT.node (hd.o_75 P) BT.nil BT.nil) BT.nil) (BT.node (hd.o_64 P) BT.nil BT.nil))) (BT.node (boot_o_5 P) (BT.node (boot_o_9 P) (BT.node (hd.o_54 P) (BT.node (hd.o_73 P) BT.nil BT.nil) BT.nil) (BT.node (hd.o_62 P) BT.nil BT.nil)) (BT.node (hd.o_45 P) (BT.node (hd.o_58 P) (BT.node (hd.o_77 P) BT.nil BT.nil) BT.nil) (BT.node (hd.o_69 P) BT.nil BT.nil)))) (BT.node (hd.o_49 P) (BT.node (boot_o_4 P) (BT.node (boot_o_8 P) (BT.node (hd.o_53 P) (BT.node (hd.o_72 P) BT.nil BT.nil) BT.nil) (BT.node (hd.o_67 P) BT.nil BT.nil)) (BT.node (hd.o_66 P) (BT.node (hd.o_57 P) (BT.node (hd.o_76 P) BT.nil BT.nil) BT.nil) (BT.node (hd.o_68 P) BT.nil BT.nil))) (BT.node (boot_o_6 P) (BT.node (boot_o_10 P) (BT.node (hd.o_55 P) (BT.node (hd.o_74 P) BT.nil BT.nil) BT.nil) (BT.node (hd.o_63 P) BT.nil BT.nil)) (BT.node (hd.o_46 P) (BT.node (hd.o_59 P) (BT.node (hd.o_78 P) BT.nil BT.nil) BT.nil) (BT.node (hd.o_70 P) BT.nil BT.nil))))))
noncomputable def hd.o_80 : (Params → Obj) := (fun (P : Params) => ⟨(Value.type "dict"), none, (Data.dict #[⟨(PyData.keyHash P (Str.ofString "__name__")), (Value.str (Str.ofString "__name__") 165), (Value.str (Str.ofString "raftkeep.errors") 187)⟩, ⟨(PyData.keyHash P (Str.ofString "__doc__")), (Value.str (Str.ofString "__doc__") 166), Value.none⟩, ⟨(PyData.keyHash P (Str.ofString "__package__")), (Value.str (Str.ofString "__package__") 167), Value.none⟩, ⟨(PyData.keyHash P (Str.ofString "__loader__")), (Value.str (Str.ofString "__loader__") 168), (Value.builtin "__main__.__loader__#opaque")⟩, ⟨(PyData.keyHash P (Str.ofString "__spec__")), (Value.str (Str.ofString "__spec__") 169), Value.none⟩, ⟨(PyData.keyHash P (Str.ofString "__annotations__")), (Value.str (Str.ofString "__annotations__") 170), (Value.ref 6)⟩, ⟨(PyData.keyHash P (Str.ofString "__builtins__")), (Value.str (Str.ofString "__builtins__") 171), (Value.ref 4)⟩, ⟨(PyData.keyHash P (Str.ofString "__file__")), (Value.str (Str.ofString "__file__") 173), (Value.str (Str.ofString "/claim/cut.py") 172)⟩, ⟨(PyData.keyHash P (Str.ofString "__cached__")), (Value.str (Str.ofString "__cached__") 174), Value.none⟩, ⟨(PyData.keyHash P (Str.ofString "KeepError")), (Value.str (Str.ofString "KeepError") 208), (Value.ref 24)⟩, ⟨(PyData.keyHash P (Str.ofString "StoreError")), (Value.str (Str.ofString "StoreError") 224), (Value.ref 37)⟩, ⟨(PyData.keyHash P (Str.ofString "Corrupt")), (Value.str (Str.ofString "Corrupt") 240), (Value.ref 49)⟩] 12), #[]⟩)
noncomputable def hd.o_90 : (Params → Obj) := (fun (P : Params) => ⟨(Value.type "tuple"), none, (Data.seq #[] 0), #[]⟩)
noncomputable def hd.o_94 : (Params → Obj) := (fun (P : Params) => ⟨(Value.type "builtin_function_or_method"), none, (Data.fields #[(Value.builtin "object.__init_subclass__"), (Value.ref 49)]), #[]⟩)
noncomputable def hd.o_86 : (Params → Obj) := (fun (P : Params) => ⟨(Value.type "tuple"), none, (Data.seq #[] 0), #[]⟩)
noncomputable def hd.o_92 : (Params → Obj) := (fun (P : Params) => ⟨(Value.type "type"), none, (Data.cls ⟨(Str.ofString "Corrupt"), [(Value.ref 37)], [(Value.ref 49), (Value.ref 37), (Value.ref 24), (Value.type "Exception"), (Value.type "BaseException"), (Value.type "object")], 48, (Str.ofString "Corrupt"), Bool.true, [], [], Bool.false, none, Bool.false⟩), #[(some (Value.ref 40)), none, (some (Value.str (Str.ofString "Corrupt") 225)), (some (Value.str (Str.ofString "Corrupt") 233)), (some (Value.builtin "Exception.__new__")), (some (Value.bool Bool.true))]⟩)
noncomputable def hd.o_84 : (Params → Obj) := (fun (P : Params) => ⟨(Value.type "builtin_function_or_method"), none, (Data.fields #[(Value.builtin "type.__prepare__"), (Value.type "type")]), #[]⟩)
noncomputable def hd.o_82 : (Params → Obj) := (fun (P : Params) => ⟨(Value.type "type"), none, (Data.cls ⟨(Str.ofString "StoreError"), [(Value.ref 24)], [(Value.ref 37), (Value.ref 24), (Value.type "Exception"), (Value.type "BaseException"), (Value.type "object")], 36, (Str.ofString "StoreError"), Bool.true, [], [(Value.ref 49)], Bool.false, none, Bool.false⟩), #[(some (Value.ref 28)), none, (some (Value.str (Str.ofString "StoreError") 209)), (some (Value.str (Str.ofString "StoreError") 217)), (some (Value.builtin "Exception.__new__")), (some (Value.bool Bool.true))]⟩)
noncomputable def hd.o_88 : (Params → Obj) := (fun (P : Params) => ⟨(Value.type "code"), none, (Data.fields #[(Value.str (Str.ofString "Corrupt") 227), (Value.str (Str.ofString "Corrupt") 228), (Value.str (Str.ofString "/claim/cut.py") 229), (Value.int (6 : Int) 0), (Value.int (0 : Int) 0), (Value.int (0 : Int) 0), (Value.int (0 : Int) 0), (Value.int (0 : Int) 0), (Value.ref 43), (Value.bool Bool.false), (Value.int (181 : Int) 0), (Value.ref 44), Value.none, Value.none, Value.none, Value.none, (Value.int (230 : Int) 0), (Value.int (6 : Int) 0), (Value.str (Str.ofString "/claim/cut.py") 231)]), #[]⟩)
noncomputable def hd.o_91 : (Params → Obj) := (fun (P : Params) => ⟨(Value.type "dict"), none, (Data.dict #[⟨(PyData.keyHash P (Str.ofString "__module__")), (Value.str (Str.ofString "__module__") 232), (Value.str (Str.ofString "raftkeep.errors") 187)⟩, ⟨(PyData.keyHash P (Str.ofString "__firstlineno__")), (Value.str (Str.ofString "__firstlineno__") 236), (Value.int (6 : Int) 235)⟩, ⟨(PyData.keyHash P (Str.ofString "__static_attributes__")), (Value.str (Str.ofString "__static_attributes__") 237), (Value.ref 47)⟩, ⟨(PyData.keyHash P (Str.ofString "__doc__")), (Value.str (Str.ofString "__doc__") 238), Value.none⟩] 2), #[]⟩)
noncomputable def hd.o_83 : (Params → Obj) := (fun (P : Params) => ⟨(Value.type "tuple"), none, (Data.seq #[(Value.ref 37)] 0), #[]⟩)
noncomputable def hd.o_81 : (Params → Obj) := (fun (P : Params) => ⟨Value.none, none, (Data.fields #[(Value.int (2 : Int) 0), (Value.int (0 : Int) 0), (Value.ref 20), (Value.int (4 : Int) 0), (Value.int (0 : Int) 0), (Value.ref 33), (Value.int (6 : Int) 0), (Value.int (0 : Int) 0), (Value.ref 45)]), #[]⟩)
noncomputable def hd.o_87 : (Params → Obj) := (fun (P : Params) => ⟨Value.none, none, (Data.fields #[]), #[]⟩)
noncomputable def hd.o_93 : (Params → Obj) := (fun (P : Params) => ⟨(Value.type "super"), none, (Data.fields #[(Value.ref 49), (Value.ref 49), (Value.ref 49)]), #[]⟩)
noncomputable def hd.o_85 : (Params → Obj) := (fun (P : Params) => ⟨(Value.type "dict"), none, (Data.dict #[⟨(PyData.keyHash P (Str.ofString "__module__")), (Value.str (Str.ofString "__module__") 232), (Value.str (Str.ofString "raftkeep.errors") 187)⟩, ⟨(PyData.keyHash P (Str.ofString "__qualname__")), (Value.str (Str.ofString "__qualname__") 234), (Value.str (Str.ofString "Corrupt") 233)⟩, ⟨(PyData.keyHash P (Str.ofString "__firstlineno__")), (Value.str (Str.ofString "__firstlineno__") 236), (Value.int (6 : Int) 235)⟩, ⟨(PyData.keyHash P (Str.ofString "__static_attributes__")), (Value.str (Str.ofString "__static_attributes__") 237), (Value.ref 47)⟩] 4), #[]⟩)
noncomputable def hd.o_89 : (Params → Obj) := (fun (P : Params) => ⟨(Value.type "frame"), none, Data.plain, #[(some (Value.ref 45)), (some (Value.ref 3)), (some (Value.ref 42)), none, (some (Value.str (Str.ofString "raftkeep.errors") 187)), none, (some (Value.ref 0))]⟩)
noncomputable def hd.tree_94 : (Params → BT) := (fun (P : Params) => (BT.node (boot_o_0 P) (BT.node (boot_o_1 P) (BT.node (hd.o_80 P) (BT.node (boot_o_7 P) (BT.node (hd.o_52 P) (BT.node (hd.o_71 P) BT.nil BT.nil) (BT.node (hd.o_90 P) BT.nil BT.nil)) (BT.node (hd.o_60 P) (BT.node (hd.o_79 P) BT.nil BT.nil) BT.nil)) (BT.node (hd.o_43 P) (BT.node (hd.o_56 P) (BT.node (hd.o_75 P) BT.nil BT.nil) (BT.node (hd.o_94 P) BT.nil BT.nil)) (BT.node (hd.o_64 P) (BT.node (hd.o_86 P) BT.nil BT.nil) BT.nil))) (BT.node (boot_o_5 P) (BT.node (boot_o_9 P) (BT.node (hd.o_54 P) (BT.node (hd.o_73 P) BT.nil BT.nil) (BT.node (hd.o_92 P) BT.nil BT.nil)) (BT.node (hd.o_62 P) (BT.node (hd.o_84 P) BT.nil BT.nil) BT.nil)) (BT.node (hd.o_45 P) (BT.node (hd.o_58 P) (BT.node (hd.o_82 P) BT.nil BT.nil) BT.nil) (BT.node (hd.o_69 P) (BT.node (hd.o_88 P) BT.nil BT.nil) BT.nil)))) (BT.node (hd.o_49 P) (BT.node (boot_o_4 P) (BT.node (boot_o_8 P) (BT.node (hd.o_53 P) (BT.node (hd.o_72 P) BT.nil BT.nil) (BT.node (hd.o_91 P) BT.nil BT.nil)) (BT.node (hd.o_67 P) (BT.node (hd.o_83 P) BT.nil BT.nil) BT.nil)) (BT.node (hd.o_81 P) (BT.node (hd.o_57 P) (BT.node (hd.o_76 P) BT.nil BT.nil) BT.nil) (BT.node (hd.o_68 P) (BT.node (hd.o_87 P) BT.nil BT.nil) BT.nil))) (BT.node (boot_o_6 P) (BT.node (boot_o_10 P) (BT.node (hd.o_55 P) (BT.node (hd.o_74 P) BT.nil BT.nil) (BT.node (hd.o_93 P) BT.nil BT.nil)) (BT.node (hd.o_63 P) (BT.node (hd.o_85 P) BT.nil BT.nil) BT.nil)) (BT.node (hd.o_46 P) (BT.node (hd.o_59 P) (BT.node (hd.o_78 P) BT.nil BT.nil) BT.nil) (BT.node (hd.o_70 P) (BT.node (hd.o_89 P) BT.nil BT.nil) BT.nil))))))
noncomputable def hd.o_95 : (Params → Obj) := (fun (P : Params) => ⟨(Value.type "dict"), none, (Data.dict #[⟨(PyData.keyHash P (Str.ofString "__name__")), (Value.str (Str.ofString "__name__") 165), (Value.str (Str.ofString "raftkeep.errors") 187)⟩, ⟨(PyData.keyHash P (Str.ofString "__doc__")), (Value.str (Str.ofString "__doc__") 166), Value.none⟩, ⟨(PyData.keyHash P (Str.ofString "__package__")), (Value.str (Str.ofString "__package__") 167), Value.none⟩, ⟨(PyData.keyHash P (Str.ofString "__loader__")), (Value.str (Str.ofString "__loader__") 168), (Value.builtin "__main__.__loader__#opaque")⟩, ⟨(PyData.keyHash P (Str.ofString "__spec__")), (Value.str (Str.ofString "__spec__") 169), Value.none⟩, ⟨(PyData.keyHash P (Str.ofString "__annotations__")), (Value.str (Str.ofString "__annotations__") 170), (Value.ref 6)⟩, ⟨(PyData.keyHash P (Str.ofString "__builtins__")), (Value.str (Str.ofString "__builtins__") 171), (Value.ref 4)⟩, ⟨(PyData.keyHash P (Str.ofString "__file__")), (Value.str (Str.ofString "__file__") 173), (Value.str (Str.ofString "/claim/cut.py") 172)⟩, ⟨(PyData.keyHash P (Str.ofString "__cached__")), (Value.str (Str.ofString "__cached__") 174), Value.none⟩, ⟨(PyData.keyHash P (Str.ofString "KeepError")), (Value.str (Str.ofString "KeepError") 208), (Value.ref 24)⟩, ⟨(PyData.keyHash P (Str.ofString "StoreError")), (Value.str (Str.ofString "StoreError") 224), (Value.ref 37)⟩, ⟨(PyData.keyHash P (Str.ofString "Corrupt")), (Value.str (Str.ofString "Corrupt") 240), (Value.ref 49)⟩, ⟨(PyData.keyHash P (Str.ofString "ShortOctets")), (Value.str (Str.ofString "ShortOctets") 256), (Value.ref 61)⟩] 13), #[]⟩)
noncomputable def hd.o_109 : (Params → Obj) := (fun (P : Params) => ⟨(Value.type "builtin_function_or_method"), none, (Data.fields #[(Value.builtin "object.__init_subclass__"), (Value.ref 61)]), #[]⟩)
noncomputable def hd.o_101 : (Params → Obj) := (fun (P : Params) => ⟨(Value.type "tuple"), none, (Data.seq #[] 0), #[]⟩)
noncomputable def hd.o_105 : (Params → Obj) := (fun (P : Params) => ⟨(Value.type "tuple"), none, (Data.seq #[] 0), #[]⟩)
noncomputable def hd.o_97 : (Params → Obj) := (fun (P : Params) => ⟨(Value.type "type"), none, (Data.cls ⟨(Str.ofString "Corrupt"), [(Value.ref 37)], [(Value.ref 49), (Value.ref 37), (Value.ref 24), (Value.type "Exception"), (Value.type "BaseException"), (Value.type "object")], 48, (Str.ofString "Corrupt"), Bool.true, [], [(Value.ref 61)], Bool.false, none, Bool.false⟩), #[(some (Value.ref 40)), none, (some (Value.str (Str.ofString "Corrupt") 225)), (some (Value.str (Str.ofString "Corrupt") 233)), (some (Value.builtin "Exception.__new__")), (some (Value.bool Bool.true))]⟩)
noncomputable def hd.o_103 : (Params → Obj) := (fun (P : Params) => ⟨(Value.type "code"), none, (Data.fields #[(Value.str (Str.ofString "ShortOctets") 243), (Value.str (Str.ofString "ShortOctets") 244), (Value.str (Str.ofString "/claim/cut.py") 245), (Value.int (8 : Int) 0), (Value.int (0 : Int) 0), (Value.int (0 : Int) 0), (Value.int (0 : Int) 0), (Value.int (0 : Int) 0), (Value.ref 55), (Value.bool Bool.false), (Value.int (181 : Int) 0), (Value.ref 56), Value.none, Value.none, Value.none, Value.none, (Value.int (246 : Int) 0), (Value.int (8 : Int) 0), (Value.str (Str.ofString "/claim/cut.py") 247)]), #[]⟩)
noncomputable def hd.o_99 : (Params → Obj) := (fun (P : Params) => ⟨(Value.type "builtin_function_or_method"), none, (Data.fields #[(Value.builtin "type.__prepare__"), (Value.type "type")]), #[]⟩)
noncomputable def hd.o_107 : (Params → Obj) := (fun (P : Params) => ⟨(Value.type "type"), none, (Data.cls ⟨(Str.ofString "ShortOctets"), [(Value.ref 49)], [(Value.ref 61), (Value.ref 49), (Value.ref 37), (Value.ref 24), (Value.type "Exception"), (Value.type "BaseException"), (Value.type "object")], 60, (Str.ofString "ShortOctets"), Bool.true, [], [], Bool.false, none, Bool.false⟩), #[(some (Value.ref 52)), none, (some (Value.str (Str.ofString "ShortOctets") 241)), (some (Value.str (Str.ofString "ShortOctets") 249)), (some (Value.builtin "Exception.__new__")), (some (Value.bool Bool.true))]⟩)
noncomputable def hd.o_102 : (Params → Obj) := (fun (P : Params) => ⟨Value.none, none, (Data.fields #[]), #[]⟩)
noncomputable def hd.o_96 : (Params → Obj) := (fun (P : Params) => ⟨Value.none, none, (Data.fields #[(Value.int (2 : Int) 0), (Value.int (0 : Int) 0), (Value.ref 20), (Value.int (4 : Int) 0), (Value.int (0 : Int) 0), (Value.ref 33), (Value.int (6 : Int) 0), (Value.int (0 : Int) 0), (Value.ref 45), (Value.int (8 : Int) 0), (Value.int (0 : Int) 0), (Value.ref 57)]), #[]⟩)
noncomputable def hd.o_98 : (Params → Obj) := (fun (P : Params) => ⟨(Value.type "tuple"), none, (Data.seq #[(Value.ref 49)] 0), #[]⟩)
noncomputable def hd.o_106 : (Params → Obj) := (fun (P : Params) => ⟨(Value.type "dict"), none, (Data.dict #[⟨(PyData.keyHash P (Str.ofString "__module__")), (Value.str (Str.ofString "__module__") 248), (Value.str (Str.ofString "raftkeep.errors") 187)⟩, ⟨(PyData.keyHash P (Str.ofString "__firstlineno__")), (Value.str (Str.ofString "__firstlineno__") 252), (Value.int (8 : Int) 251)⟩, ⟨(PyData.keyHash P (Str.ofString "__static_attributes__")), (Value.str (Str.ofString "__static_attributes__") 253), (Value.ref 59)⟩, ⟨(PyData.keyHash P (Str.ofString "__doc__")), (Value.str (Str.ofString "__doc__") 254), Value.none⟩] 2), #[]⟩)
noncomputable def hd.o_104 : (Params → Obj) := (fun (P : Params) => ⟨(Value.type "frame"), none, Data.plain, #[(some (Value.ref 57)), (some (Value.ref 3)), (some (Value.ref 54)), none, (some (Value.str (Str.ofString "raftkeep.errors") 187)), none, (some (Value.ref 0))]⟩)
noncomputable def hd.o_100 : (Params → Obj) := (fun (P : Params) => ⟨(Value.type "dict"), none, (Data.dict #[⟨(PyData.keyHash P (Str.ofString "__module__")), (Value.str (Str.ofString "__module__") 248), (Value.str (Str.ofString "raftkeep.errors") 187)⟩, ⟨(PyData.keyHash P (Str.ofString "__qualname__")), (Value.str (Str.ofString "__qualname__") 250), (Value.str (Str.ofString "ShortOctets") 249)⟩, ⟨(PyData.keyHash P (Str.ofString "__firstlineno__")), (Value.str (Str.ofString "__firstlineno__") 252), (Value.int (8 : Int) 251)⟩, ⟨(PyData.keyHash P (Str.ofString "__static_attributes__")), (Value.str (Str.ofString "__static_attributes__") 253), (Value.ref 59)⟩] 4), #[]⟩)
noncomputable def hd.o_108 : (Params → Obj) := (fun (P : Params) => ⟨(Value.type "super"), none, (Data.fields #[(Value.ref 61), (Value.ref 61), (Value.ref 61)]), #[]⟩)
noncomputable def hd.tree_109 : (Params → BT) := (fun (P : Params) => (BT.node (boot_o_0 P) (BT.node (boot_o_1 P) (BT.node (hd.o_95 P) (BT.node (boot_o_7 P) (BT.node (hd.o_52 P) (BT.node (hd.o_71 P) (BT.node (hd.o_109 P) BT.nil BT.nil) BT.nil) (BT.node (hd.o_90 P) BT.nil BT.nil)) (BT.node (hd.o_60 P) (BT.node (hd.o_79 P) BT.nil BT.nil) (BT.node (hd.o_101 P) BT.nil BT.nil))) (BT.node (hd.o_43 P) (BT.node (hd.o_56 P) (BT.node (hd.o_75 P) BT.nil BT.nil) (BT.node (hd.o_94 P) BT.nil BT.nil)) (BT.node (hd.o_64 P) (BT.node (hd.o_86 P) BT.nil BT.nil) (BT.node (hd.o_105 P) BT.nil BT.nil)))) (BT.node (boot_o_5 P) (BT.node (boot_o_9 P) (BT.node (hd.o_54 P) (BT.node (hd.o_73 P) BT.nil BT.nil) (BT.node (hd.o_97 P) BT.nil BT.nil)) (BT.node (hd.o_62 P) (BT.node (hd.o_84 P) BT.nil BT.nil) (BT.node (hd.o_103 P) BT.nil BT.nil))) (BT.node (hd.o_45 P) (BT.node (hd.o_58 P) (BT.node (hd.o_82 P) BT.nil BT.nil) (BT.node (hd.o_99 P) BT.nil BT.nil)) (BT.node (hd.o_69 P) (BT.node (hd.o_88 P) BT.nil BT.nil) (BT.node (hd.o_107 P) BT.nil BT.nil))))) (BT.node (hd.o_49 P) (BT.node (boot_o_4 P) (BT.node (boot_o_8 P) (BT.node (hd.o_53 P) (BT.node (hd.o_72 P) BT.nil BT.nil) (BT.node (hd.o_91 P) BT.nil BT.nil)) (BT.node (hd.o_67 P) (BT.node (hd.o_83 P) BT.nil BT.nil) (BT.node (hd.o_102 P) BT.nil BT.nil))) (BT.node (hd.o_96 P) (BT.node (hd.o_57 P) (BT.node (hd.o_76 P) BT.nil BT.nil) (BT.node (hd.o_98 P) BT.nil BT.nil)) (BT.node (hd.o_68 P) (BT.node (hd.o_87 P) BT.nil BT.nil) (BT.node (hd.o_106 P) BT.nil BT.nil)))) (BT.node (boot_o_6 P) (BT.node (boot_o_10 P) (BT.node (hd.o_55 P) (BT.node (hd.o_74 P) BT.nil BT.nil) (BT.node (hd.o_93 P) BT.nil BT.nil)) (BT.node (hd.o_63 P) (BT.node (hd.o_85 P) BT.nil BT.nil) (BT.node (hd.o_104 P) BT.nil BT.nil))) (BT.node (hd.o_46 P) (BT.node (hd.o_59 P) (BT.node (hd.o_78 P) BT.nil BT.nil) (BT.node (hd.o_100 P) BT.nil BT.nil)) (BT.node (hd.o_70 P) (BT.node (hd.o_89 P) BT.nil BT.nil) (BT.node (hd.o_108 P) BT.nil BT.nil)))))))
noncomputable def hd.o_110 : (Params → Obj) := (fun (P : Params) => ⟨(Value.type "dict"), none, (Data.dict #[⟨(PyData.keyHash P (Str.ofString "__name__")), (Value.str (Str.ofString "__name__") 165), (Value.str (Str.ofString "raftkeep.blocks") 302)⟩, ⟨(PyData.keyHash P (Str.ofString "__doc__")), (Value.str (Str.ofString "__doc__") 166), Value.none⟩, ⟨(PyData.keyHash P (Str.ofString "__package__")), (Value.str (Str.ofString "__package__") 167), Value.none⟩, ⟨(PyData.keyHash P (Str.ofString "__loader__")), (Value.str (Str.ofString "__loader__") 168), (Value.builtin "__main__.__loader__#opaque")⟩, ⟨(PyData.keyHash P (Str.ofString "__spec__")), (Value.str (Str.ofString "__spec__") 169), Value.none⟩, ⟨(PyData.keyHash P (Str.ofString "__annotations__")), (Value.str (Str.ofString "__annotations__") 170), (Value.ref 6)⟩, ⟨(PyData.keyHash P (Str.ofString "__builtins__")), (Value.str (Str.ofString "__builtins__") 171), (Value.ref 4)⟩, ⟨(PyData.keyHash P (Str.ofString "__file__")), (Value.str (Str.ofString "__file__") 173), (Value.str (Str.ofString "/claim/cut.py") 172)⟩, ⟨(PyData.keyHash P (Str.ofString "__cached__")), (Value.str (Str.ofString "__cached__") 174), Value.none⟩, ⟨(PyData.keyHash P (Str.ofString "KeepError")), (Value.str (Str.ofString "KeepError") 208), (Value.ref 24)⟩, ⟨(PyData.keyHash P (Str.ofString "StoreError")), (Value.str (Str.ofString "StoreError") 224), (Value.ref 37)⟩, ⟨(PyData.keyHash P (Str.ofString "Corrupt")), (Value.str (Str.ofString "Corrupt") 240), (Value.ref 49)⟩, ⟨(PyData.keyHash P (Str.ofString "ShortOctets")), (Value.str (Str.ofString "ShortOctets") 256), (Value.ref 61)⟩, ⟨(PyData.keyHash P (Str.ofString "BadOption")), (Value.str (Str.ofString "BadOption") 272), (Value.ref 73)⟩, ⟨(PyData.keyHash P (Str.ofString "MAX_32")), (Value.str (Str.ofString "MAX_32") 276), (Value.int (4294967295 : Int) 275)⟩, ⟨(PyData.keyHash P (Str.ofString "HASH_SEED")), (Value.str (Str.ofString "HASH_SEED") 278), (Value.int (3164544308 : Int) 277)⟩, ⟨(PyData.keyHash P (Str.ofString "HASH_MUL")), (Value.str (Str.ofString "HASH_MUL") 280), (Value.int (3332679571 : Int) 279)⟩, ⟨(PyData.keyHash P (Str.ofString "HASH_SHIFT")), (Value.str (Str.ofString "HASH_SHIFT") 282), (Value.int (24 : Int) 281)⟩, ⟨(PyData.keyHash P (Str.ofString "read_fixed32")), (Value.str (Str.ofString "read_fixed32") 290), (Value.ref 82)⟩, ⟨(PyData.keyHash P (Str.ofString "bloom_hash")), (Value.str (Str.ofString "bloom_hash") 301), (Value.ref 89)⟩, ⟨(PyData.keyHash P (Str.ofString "MOST_PROBES")), (Value.str (Str.ofString "MOST_PROBES") 305), (Value.int (30 : Int) 304)⟩, ⟨(PyData.keyHash P (Str.ofString "LEAST_FILTER_BITS")), (Value.str (Str.ofString "LEAST_FILTER_BITS") 307), (Value.int (64 : Int) 306)⟩, ⟨(PyData.keyHash P (Str.ofString "WORD")), (Value.str (Str.ofString "WORD") 309), (Value.int (4294967295 : Int) 308)⟩] 23), #[]⟩)
noncomputable def hd.o_128 : (Params → Obj) := (fun (P : Params) => ⟨(Value.type "tuple"), none, (Data.seq #[] 0), #[]⟩)
noncomputable def hd.o_120 : (Params → Obj) := (fun (P : Params) => ⟨(Value.type "tuple"), none, (Data.seq #[] 0), #[]⟩)
noncomputable def hd.o_136 : (Params → Obj) := (fun (P : Params) => ⟨Value.none, none, (Data.func ⟨(Str.ofString "bloom_hash"), (Str.ofString "bloom_hash"), pA12, FuncBody.stmts (pB12), pS12, 0, [], Value.none, Value.none, Value.none, Value.none, none, Value.none, Value.none, 0⟩), #[]⟩)
noncomputable def hd.o_116 : (Params → Obj) := (fun (P : Params) => ⟨(Value.type "tuple"), none, (Data.seq #[] 0), #[]⟩)
noncomputable def hd.o_132 : (Params → Obj) := (fun (P : Params) => ⟨(Value.type "tuple"), none, (Data.seq #[] 0), #[]⟩)
noncomputable def hd.o_124 : (Params → Obj) := (fun (P : Params) => ⟨(Value.type "builtin_function_or_method"), none, (Data.fields #[(Value.builtin "object.__init_subclass__"), (Value.ref 73)]), #[]⟩)
noncomputable def hd.o_114 : (Params → Obj) := (fun (P : Params) => ⟨(Value.type "builtin_function_or_method"), none, (Data.fields #[(Value.builtin "type.__prepare__"), (Value.type "type")]), #[]⟩)
noncomputable def hd.o_130 : (Params → Obj) := (fun (P : Params) => ⟨(Value.type "code"), none, (Data.fields #[(Value.str (Str.ofString "read_fixed32") 283), (Value.str (Str.ofString "read_fixed32") 284), (Value.str (Str.ofString "/claim/cut.py") 285), (Value.int (17 : Int) 0), (Value.int (2 : Int) 0), (Value.int (0 : Int) 0), (Value.int (0 : Int) 0), (Value.int (3 : Int) 0), (Value.ref 76), (Value.bool Bool.true), (Value.int (181 : Int) 0), (Value.ref 77), Value.none, (Value.ref 78), (Value.ref 79), (Value.ref 80), (Value.int (288 : Int) 0), (Value.int (17 : Int) 0), (Value.str (Str.ofString "/claim/cut.py") 289)]), #[]⟩)
noncomputable def hd.o_122 : (Params → Obj) := (fun (P : Params) => ⟨(Value.type "type"), none, (Data.cls ⟨(Str.ofString "BadOption"), [(Value.ref 37)], [(Value.ref 73), (Value.ref 37), (Value.ref 24), (Value.type "Exception"), (Value.type "BaseException"), (Value.type "object")], 72, (Str.ofString "BadOption"), Bool.true, [], [], Bool.false, none, Bool.false⟩), #[(some (Value.ref 64)), none, (some (Value.str (Str.ofString "BadOption") 257)), (some (Value.str (Str.ofString "BadOption") 265)), (some (Value.builtin "Exception.__new__")), (some (Value.bool Bool.true))]⟩)
noncomputable def hd.o_138 : (Params → Obj) := (fun (P : Params) => ⟨(Value.type "function"), none, (Data.func ⟨(Str.ofString "bloom_hash"), (Str.ofString "bloom_hash"), pA12, FuncBody.stmts (pB12), pS12, 3, [], Value.none, Value.none, Value.none, (Value.str (Str.ofString "raftkeep.octets") 273), none, (Value.ref 88), Value.none, 0⟩), #[]⟩)
noncomputable def hd.o_112 : (Params → Obj) := (fun (P : Params) => ⟨(Value.type "type"), none, (Data.cls ⟨(Str.ofString "StoreError"), [(Value.ref 24)], [(Value.ref 37), (Value.ref 24), (Value.type "Exception"), (Value.type "BaseException"), (Value.type "object")], 36, (Str.ofString "StoreError"), Bool.true, [], [(Value.ref 49), (Value.ref 73)], Bool.false, none, Bool.false⟩), #[(some (Value.ref 28)), none, (some (Value.str (Str.ofString "StoreError") 209)), (some (Value.str (Str.ofString "StoreError") 217)), (some (Value.builtin "Exception.__new__")), (some (Value.bool Bool.true))]⟩)
noncomputable def hd.o_118 : (Params → Obj) := (fun (P : Params) => ⟨(Value.type "code"), none, (Data.fields #[(Value.str (Str.ofString "BadOption") 259), (Value.str (Str.ofString "BadOption") 260), (Value.str (Str.ofString "/claim/cut.py") 261), (Value.int (10 : Int) 0), (Value.int (0 : Int) 0), (Value.int (0 : Int) 0), (Value.int (0 : Int) 0), (Value.int (0 : Int) 0), (Value.ref 67), (Value.bool Bool.false), (Value.int (181 : Int) 0), (Value.ref 68), Value.none, Value.none, Value.none, Value.none, (Value.int (262 : Int) 0), (Value.int (10 : Int) 0), (Value.str (Str.ofString "/claim/cut.py") 263)]), #[]⟩)
noncomputable def hd.o_134 : (Params → Obj) := (fun (P : Params) => ⟨(Value.type "tuple"), none, (Data.seq #[(Value.str (Str.ofString "data") 294), (Value.str (Str.ofString "size") 295), (Value.str (Str.ofString "h") 296), (Value.str (Str.ofString "at") 297), (Value.str (Str.ofString "rest") 298)] 0), #[]⟩)
noncomputable def hd.o_126 : (Params → Obj) := (fun (P : Params) => ⟨Value.none, none, (Data.fields #[]), #[]⟩)
noncomputable def hd.o_113 : (Params → Obj) := (fun (P : Params) => ⟨(Value.type "tuple"), none, (Data.seq #[(Value.ref 37)] 0), #[]⟩)
noncomputable def hd.o_129 : (Params → Obj) := (fun (P : Params) => ⟨Value.none, none, (Data.func ⟨(Str.ofString "read_fixed32"), (Str.ofString "read_fixed32"), pA11, FuncBody.stmts (pB11), pS11, 0, [], Value.none, Value.none, Value.none, Value.none, none, Value.none, Value.none, 0⟩), #[]⟩)
noncomputable def hd.o_121 : (Params → Obj) := (fun (P : Params) => ⟨(Value.type "dict"), none, (Data.dict #[⟨(PyData.keyHash P (Str.ofString "__module__")), (Value.str (Str.ofString "__module__") 264), (Value.str (Str.ofString "raftkeep.errors") 187)⟩, ⟨(PyData.keyHash P (Str.ofString "__firstlineno__")), (Value.str (Str.ofString "__firstlineno__") 268), (Value.int (10 : Int) 267)⟩, ⟨(PyData.keyHash P (Str.ofString "__static_attributes__")), (Value.str (Str.ofString "__static_attributes__") 269), (Value.ref 71)⟩, ⟨(PyData.keyHash P (Str.ofString "__doc__")), (Value.str (Str.ofString "__doc__") 270), Value.none⟩] 2), #[]⟩)
noncomputable def hd.o_137 : (Params → Obj) := (fun (P : Params) => ⟨(Value.type "code"), none, (Data.fields #[(Value.str (Str.ofString "bloom_hash") 291), (Value.str (Str.ofString "bloom_hash") 292), (Value.str (Str.ofString "/claim/cut.py") 293), (Value.int (21 : Int) 0), (Value.int (1 : Int) 0), (Value.int (0 : Int) 0), (Value.int (0 : Int) 0), (Value.int (3 : Int) 0), (Value.ref 83), (Value.bool Bool.true), (Value.int (181 : Int) 0), (Value.ref 84), Value.none, (Value.ref 85), (Value.ref 86), (Value.ref 87), (Value.int (299 : Int) 0), (Value.int (21 : Int) 0), (Value.str (Str.ofString "/claim/cut.py") 300)]), #[]⟩)
noncomputable def hd.o_111 : (Params → Obj) := (fun (P : Params) => ⟨Value.none, none, (Data.fields #[(Value.int (2 : Int) 0), (Value.int (0 : Int) 0), (Value.ref 20), (Value.int (4 : Int) 0), (Value.int (0 : Int) 0), (Value.ref 33), (Value.int (6 : Int) 0), (Value.int (0 : Int) 0), (Value.ref 45), (Value.int (8 : Int) 0), (Value.int (0 : Int) 0), (Value.ref 57), (Value.int (10 : Int) 0), (Value.int (0 : Int) 0), (Value.ref 69), (Value.int (17 : Int) 0), (Value.int (0 : Int) 0), (Value.ref 81), (Value.int (21 : Int) 0), (Value.int (0 : Int) 0), (Value.ref 88)]), #[]⟩)
noncomputable def hd.o_117 : (Params → Obj) := (fun (P : Params) => ⟨Value.none, none, (Data.fields #[]), #[]⟩)
noncomputable def hd.o_133 : (Params → Obj) := (fun (P : Params) => ⟨Value.none, none, (Data.fields #[]), #[]⟩)
noncomputable def hd.o_125 : (Params → Obj) := (fun (P : Params) => ⟨(Value.type "tuple"), none, (Data.seq #[] 0), #[]⟩)
noncomputable def hd.o_115 : (Params → Obj) := (fun (P : Params) => ⟨(Value.type "dict"), none, (Data.dict #[⟨(PyData.keyHash P (Str.ofString "__module__")), (Value.str (Str.ofString "__module__") 264), (Value.str (Str.ofString "raftkeep.errors") 187)⟩, ⟨(PyData.keyHash P (Str.ofString "__qualname__")), (Value.str (Str.ofString "__qualname__") 266), (Value.str (Str.ofString "BadOption") 265)⟩, ⟨(PyData.keyHash P (Str.ofString "__firstlineno__")), (Value.str (Str.ofString "__firstlineno__") 268), (Value.int (10 : Int) 267)⟩, ⟨(PyData.keyHash P (Str.ofString "__static_attributes__")), (Value.str (Str.ofString "__static_attributes__") 269), (Value.ref 71)⟩] 4), #[]⟩)
noncomputable def hd.o_131 : (Params → Obj) := (fun (P : Params) => ⟨(Value.type "function"), none, (Data.func ⟨(Str.ofString "read_fixed32"), (Str.ofString "read_fixed32"), pA11, FuncBody.stmts (pB11), pS11, 3, [], Value.none, Value.none, Value.none, (Value.str (Str.ofString "raftkeep.octets") 273), none, (Value.ref 81), Value.none, 0⟩), #[]⟩)
noncomputable def hd.o_123 : (Params → Obj) := (fun (P : Params) => ⟨(Value.type "super"), none, (Data.fields #[(Value.ref 73), (Value.ref 73), (Value.ref 73)]), #[]⟩)
noncomputable def hd.o_119 : (Params → Obj) := (fun (P : Params) => ⟨(Value.type "frame"), none, Data.plain, #[(some (Value.ref 69)), (some (Value.ref 3)), (some (Value.ref 66)), none, (some (Value.str (Str.ofString "raftkeep.errors") 187)), none, (some (Value.ref 0))]⟩)
noncomputable def hd.o_135 : (Params → Obj) := (fun (P : Params) => ⟨(Value.type "tuple"), none, (Data.seq #[] 0), #[]⟩)
noncomputable def hd.o_127 : (Params → Obj) := (fun (P : Params) => ⟨(Value.type "tuple"), none, (Data.seq #[(Value.str (Str.ofString "data") 286), (Value.str (Str.ofString "at") 287)] 0), #[]⟩)
noncomputable def hd.tree_138 : (Params → BT) := (fun (P : Params) => (BT.node (boot_o_0 P) (BT.node (boot_o_1 P) (BT.node (hd.o_110 P) (BT.node (boot_o_7 P) (BT.node (hd.o_52 P) (BT.node (hd.o_71 P) (BT.node (hd.o_109 P) BT.nil BT.nil) BT.nil) (BT.node (hd.o_90 P) (BT.node (hd.o_128 P) BT.nil BT.nil) BT.nil)) (BT.node (hd.o_60 P) (BT.node (hd.o_79 P) (BT.node (hd.o_120 P) BT.nil BT.nil) BT.nil) (BT.node (hd.o_101 P) (BT.node (hd.o_136 P) BT.nil BT.nil) BT.nil))) (BT.node (hd.o_43 P) (BT.node (hd.o_56 P) (BT.node (hd.o_75 P) (BT.node (hd.o_116 P) BT.nil BT.nil) BT.nil) (BT.node (hd.o_94 P) (BT.node (hd.o_132 P) BT.nil BT.nil) BT.nil)) (BT.node (hd.o_64 P) (BT.node (hd.o_86 P) (BT.node (hd.o_124 P) BT.nil BT.nil) BT.nil) (BT.node (hd.o_105 P) BT.nil BT.nil)))) (BT.node (boot_o_5 P) (BT.node (boot_o_9 P) (BT.node (hd.o_54 P) (BT.node (hd.o_73 P) (BT.node (hd.o_114 P) BT.nil BT.nil) BT.nil) (BT.node (hd.o_97 P) (BT.node (hd.o_130 P) BT.nil BT.nil) BT.nil)) (BT.node (hd.o_62 P) (BT.node (hd.o_84 P) (BT.node (hd.o_122 P) BT.nil BT.nil) BT.nil) (BT.node (hd.o_103 P) (BT.node (hd.o_138 P) BT.nil BT.nil) BT.nil))) (BT.node (hd.o_45 P) (BT.node (hd.o_58 P) (BT.node (hd.o_112 P) (BT.node (hd.o_118 P) BT.nil BT.nil) BT.nil) (BT.node (hd.o_99 P) (BT.node (hd.o_134 P) BT.nil BT.nil) BT.nil)) (BT.node (hd.o_69 P) (BT.node (hd.o_88 P) (BT.node (hd.o_126 P) BT.nil BT.nil) BT.nil) (BT.node (hd.o_107 P) BT.nil BT.nil))))) (BT.node (hd.o_49 P) (BT.node (boot_o_4 P) (BT.node (boot_o_8 P) (BT.node (hd.o_53 P) (BT.node (hd.o_72 P) (BT.node (hd.o_113 P) BT.nil BT.nil) BT.nil) (BT.node (hd.o_91 P) (BT.node (hd.o_129 P) BT.nil BT.nil) BT.nil)) (BT.node (hd.o_67 P) (BT.node (hd.o_83 P) (BT.node (hd.o_121 P) BT.nil BT.nil) BT.nil) (BT.node (hd.o_102 P) (BT.node (hd.o_137 P) BT.nil BT.nil) BT.nil))) (BT.node (hd.o_111 P) (BT.node (hd.o_57 P) (BT.node (hd.o_76 P) (BT.node (hd.o_117 P) BT.nil BT.nil) BT.nil) (BT.node (hd.o_98 P) (BT.node (hd.o_133 P) BT.nil BT.nil) BT.nil)) (BT.node (hd.o_68 P) (BT.node (hd.o_87 P) (BT.node (hd.o_125 P) BT.nil BT.nil) BT.nil) (BT.node (hd.o_106 P) BT.nil BT.nil)))) (BT.node (boot_o_6 P) (BT.node (boot_o_10 P) (BT.node (hd.o_55 P) (BT.node (hd.o_74 P) (BT.node (hd.o_115 P) BT.nil BT.nil) BT.nil) (BT.node (hd.o_93 P) (BT.node (hd.o_131 P) BT.nil BT.nil) BT.nil)) (BT.node (hd.o_63 P) (BT.node (hd.o_85 P) (BT.node (hd.o_123 P) BT.nil BT.nil) BT.nil) (BT.node (hd.o_104 P) BT.nil BT.nil))) (BT.node (hd.o_46 P) (BT.node (hd.o_59 P) (BT.node (hd.o_78 P) (BT.node (hd.o_119 P) BT.nil BT.nil) BT.nil) (BT.node (hd.o_100 P) (BT.node (hd.o_135 P) BT.nil BT.nil) BT.nil)) (BT.node (hd.o_70 P) (BT.node (hd.o_89 P) (BT.node (hd.o_127 P) BT.nil BT.nil) BT.nil) (BT.node (hd.o_108 P) BT.nil BT.nil)))))))
noncomputable def hd.o_139 : (Params → Obj) := (fun (P : Params) => ⟨(Value.type "dict"), none, (Data.dict #[⟨(PyData.keyHash P (Str.ofString "__name__")), (Value.str (Str.ofString "__name__") 165), (Value.str (Str.ofString "law_xm0845_01") 373)⟩, ⟨(PyData.keyHash P (Str.ofString "__doc__")), (Value.str (Str.ofString "__doc__") 166), Value.none⟩, ⟨(PyData.keyHash P (Str.ofString "__package__")), (Value.str (Str.ofString "__package__") 167), Value.none⟩, ⟨(PyData.keyHash P (Str.ofString "__loader__")), (Value.str (Str.ofString "__loader__") 168), (Value.builtin "__main__.__loader__#opaque")⟩, ⟨(PyData.keyHash P (Str.ofString "__spec__")), (Value.str (Str.ofString "__spec__") 169), Value.none⟩, ⟨(PyData.keyHash P (Str.ofString "__annotations__")), (Value.str (Str.ofString "__annotations__") 170), (Value.ref 6)⟩, ⟨(PyData.keyHash P (Str.ofString "__builtins__")), (Value.str (Str.ofString "__builtins__") 171), (Value.ref 4)⟩, ⟨(PyData.keyHash P (Str.ofString "__file__")), (Value.str (Str.ofString "__file__") 173), (Value.str (Str.ofString "/claim/cut.py") 172)⟩, ⟨(PyData.keyHash P (Str.ofString "__cached__")), (Value.str (Str.ofString "__cached__") 174), Value.none⟩, ⟨(PyData.keyHash P (Str.ofString "KeepError")), (Value.str (Str.ofString "KeepError") 208), (Value.ref 24)⟩, ⟨(PyData.keyHash P (Str.ofString "StoreError")), (Value.str (Str.ofString "StoreError") 224), (Value.ref 37)⟩, ⟨(PyData.keyHash P (Str.ofString "Corrupt")), (Value.str (Str.ofString "Corrupt") 240), (Value.ref 49)⟩, ⟨(PyData.keyHash P (Str.ofString "ShortOctets")), (Value.str (Str.ofString "ShortOctets") 256), (Value.ref 61)⟩, ⟨(PyData.keyHash P (Str.ofString "BadOption")), (Value.str (Str.ofString "BadOption") 272), (Value.ref 73)⟩, ⟨(PyData.keyHash P (Str.ofString "MAX_32")), (Value.str (Str.ofString "MAX_32") 276), (Value.int (4294967295 : Int) 275)⟩, ⟨(PyData.keyHash P (Str.ofString "HASH_SEED")), (Value.str (Str.ofString "HASH_SEED") 278), (Value.int (3164544308 : Int) 277)⟩, ⟨(PyData.keyHash P (Str.ofString "HASH_MUL")), (Value.str (Str.ofString "HASH_MUL") 280), (Value.int (3332679571 : Int) 279)⟩, ⟨(PyData.keyHash P (Str.ofString "HASH_SHIFT")), (Value.str (Str.ofString "HASH_SHIFT") 282), (Value.int (24 : Int) 281)⟩, ⟨(PyData.keyHash P (Str.ofString "read_fixed32")), (Value.str (Str.ofString "read_fixed32") 290), (Value.ref 82)⟩, ⟨(PyData.keyHash P (Str.ofString "bloom_hash")), (Value.str (Str.ofString "bloom_hash") 301), (Value.ref 89)⟩, ⟨(PyData.keyHash P (Str.ofString "MOST_PROBES")), (Value.str (Str.ofString "MOST_PROBES") 305), (Value.int (30 : Int) 304)⟩, ⟨(PyData.keyHash P (Str.ofString "LEAST_FILTER_BITS")), (Value.str (Str.ofString "LEAST_FILTER_BITS") 307), (Value.int (64 : Int) 306)⟩, ⟨(PyData.keyHash P (Str.ofString "WORD")), (Value.str (Str.ofString "WORD") 309), (Value.int (4294967295 : Int) 308)⟩, ⟨(PyData.keyHash P (Str.ofString "Bloom")), (Value.str (Str.ofString "Bloom") 372), (Value.ref 120)⟩, ⟨(PyData.keyHash P (Str.ofString "_law_draw")), (Value.str (Str.ofString "_law_draw") 382), (Value.ref 131)⟩, ⟨(PyData.keyHash P (Str.ofString "_law_word")), (Value.str (Str.ofString "_law_word") 391), (Value.ref 138)⟩, ⟨(PyData.keyHash P (Str.ofString "_law_spots")), (Value.str (Str.ofString "_law_spots") 397), (Value.ref 143)⟩] 27), #[]⟩)
noncomputable def hd.o_178 : (Params → Obj) := (fun (P : Params) => ⟨(Value.type "tuple"), none, (Data.seq #[(Value.str (Str.ofString "nums") 378), (Value.str (Str.ofString "i") 379)] 0), #[]⟩)
noncomputable def hd.o_146 : (Params → Obj) := (fun (P : Params) => ⟨(Value.type "code"), none, (Data.fields #[(Value.str (Str.ofString "Bloom") 312), (Value.str (Str.ofString "Bloom") 313), (Value.str (Str.ofString "/claim/cut.py") 314), (Value.int (42 : Int) 0), (Value.int (0 : Int) 0), (Value.int (0 : Int) 0), (Value.int (0 : Int) 0), (Value.int (0 : Int) 0), (Value.ref 93), (Value.bool Bool.false), (Value.int (181 : Int) 0), (Value.ref 94), Value.none, Value.none, Value.none, Value.none, (Value.int (315 : Int) 0), (Value.int (42 : Int) 0), (Value.str (Str.ofString "/claim/cut.py") 316)]), #[]⟩)
noncomputable def hd.o_194 : (Params → Obj) := (fun (P : Params) => ⟨(Value.type "function"), none, (Data.func ⟨(Str.ofString "_law_spots"), (Str.ofString "_law_spots"), pA21, FuncBody.stmts (pB21), pS21, 3, [], Value.none, Value.none, Value.none, (Value.str (Str.ofString "law_xm0845_01") 373), none, (Value.ref 142), Value.none, 0⟩), #[]⟩)
noncomputable def hd.o_162 : (Params → Obj) := (fun (P : Params) => ⟨(Value.type "tuple"), none, (Data.seq #[] 0), #[]⟩)
noncomputable def hd.o_186 : (Params → Obj) := (fun (P : Params) => ⟨(Value.type "tuple"), none, (Data.seq #[] 0), #[]⟩)
noncomputable def hd.o_154 : (Params → Obj) := (fun (P : Params) => ⟨(Value.type "function"), none, (Data.func ⟨(Str.ofString "__init__"), (Str.ofString "Bloom.__init__"), pA17x0, FuncBody.stmts (pB17x0), pS17x0, 3, [], Value.none, Value.none, Value.none, (Value.str (Str.ofString "raftkeep.blocks") 302), none, (Value.ref 102), Value.none, 0⟩), #[]⟩)
noncomputable def hd.o_170 : (Params → Obj) := (fun (P : Params) => ⟨(Value.type "dict"), none, (Data.dict #[⟨(PyData.keyHash P (Str.ofString "__module__")), (Value.str (Str.ofString "__module__") 317), (Value.str (Str.ofString "raftkeep.blocks") 302)⟩, ⟨(PyData.keyHash P (Str.ofString "__firstlineno__")), (Value.str (Str.ofString "__firstlineno__") 321), (Value.int (42 : Int) 320)⟩, ⟨(PyData.keyHash P (Str.ofString "__init__")), (Value.str (Str.ofString "__init__") 330), (Value.ref 103)⟩, ⟨(PyData.keyHash P (Str.ofString "make")), (Value.str (Str.ofString "make") 347), (Value.ref 110)⟩, ⟨(PyData.keyHash P (Str.ofString "may_have")), (Value.str (Str.ofString "may_have") 362), (Value.ref 117)⟩, ⟨(PyData.keyHash P (Str.ofString "__static_attributes__")), (Value.str (Str.ofString "__static_attributes__") 365), (Value.ref 118)⟩, ⟨(PyData.keyHash P (Str.ofString "__dict__")), (Value.str (Str.ofString "__dict__") 367), (Value.ref 121)⟩, ⟨(PyData.keyHash P (Str.ofString "__weakref__")), (Value.str (Str.ofString "__weakref__") 369), (Value.ref 122)⟩, ⟨(PyData.keyHash P (Str.ofString "__doc__")), (Value.str (Str.ofString "__doc__") 370), Value.none⟩] 4), #[]⟩)
noncomputable def hd.o_182 : (Params → Obj) := (fun (P : Params) => ⟨(Value.type "function"), none, (Data.func ⟨(Str.ofString "_law_draw"), (Str.ofString "_law_draw"), pA19, FuncBody.stmts (pB19), pS19, 3, [], Value.none, Value.none, Value.none, (Value.str (Str.ofString "law_xm0845_01") 373), none, (Value.ref 130), Value.none, 0⟩), #[]⟩)
noncomputable def hd.o_150 : (Params → Obj) := (fun (P : Params) => ⟨(Value.type "tuple"), none, (Data.seq #[(Value.str (Str.ofString "self") 325), (Value.str (Str.ofString "bits") 326), (Value.str (Str.ofString "probes") 327)] 0), #[]⟩)
noncomputable def hd.o_166 : (Params → Obj) := (fun (P : Params) => ⟨Value.none, none, (Data.func ⟨(Str.ofString "may_have"), (Str.ofString "Bloom.may_have"), pA17x2, FuncBody.stmts (pB17x2), pS17x2, 0, [], Value.none, Value.none, Value.none, Value.none, none, Value.none, Value.none, 0⟩), #[]⟩)
noncomputable def hd.o_190 : (Params → Obj) := (fun (P : Params) => ⟨(Value.type "tuple"), none, (Data.seq #[] 0), #[]⟩)
noncomputable def hd.o_158 : (Params → Obj) := (fun (P : Params) => ⟨(Value.type "tuple"), none, (Data.seq #[] 0), #[]⟩)
noncomputable def hd.o_142 : (Params → Obj) := (fun (P : Params) => ⟨(Value.type "builtin_function_or_method"), none, (Data.fields #[(Value.builtin "type.__prepare__"), (Value.type "type")]), #[]⟩)
noncomputable def hd.o_174 : (Params → Obj) := (fun (P : Params) => ⟨(Value.type "super"), none, (Data.fields #[(Value.ref 120), (Value.ref 120), (Value.ref 120)]), #[]⟩)
noncomputable def hd.o_180 : (Params → Obj) := (fun (P : Params) => ⟨Value.none, none, (Data.func ⟨(Str.ofString "_law_draw"), (Str.ofString "_law_draw"), pA19, FuncBody.stmts (pB19), pS19, 0, [], Value.none, Value.none, Value.none, Value.none, none, Value.none, Value.none, 0⟩), #[]⟩)
noncomputable def hd.o_148 : (Params → Obj) := (fun (P : Params) => ⟨(Value.type "tuple"), none, (Data.seq #[] 0), #[]⟩)
noncomputable def hd.o_164 : (Params → Obj) := (fun (P : Params) => ⟨(Value.type "tuple"), none, (Data.seq #[(Value.str (Str.ofString "self") 351), (Value.str (Str.ofString "key") 352), (Value.str (Str.ofString "held") 353), (Value.str (Str.ofString "probes") 354), (Value.str (Str.ofString "wide") 355), (Value.str (Str.ofString "h") 356), (Value.str (Str.ofString "delta") 357), (Value.str (Str.ofString "probe") 358), (Value.str (Str.ofString "place") 359)] 0), #[]⟩)
noncomputable def hd.o_188 : (Params → Obj) := (fun (P : Params) => ⟨(Value.type "code"), none, (Data.fields #[(Value.str (Str.ofString "_law_word") 383), (Value.str (Str.ofString "_law_word") 384), (Value.str (Str.ofString "/claim/cut.py") 385), (Value.int (90 : Int) 0), (Value.int (1 : Int) 0), (Value.int (0 : Int) 0), (Value.int (0 : Int) 0), (Value.int (3 : Int) 0), (Value.ref 132), (Value.bool Bool.true), (Value.int (181 : Int) 0), (Value.ref 133), Value.none, (Value.ref 134), (Value.ref 135), (Value.ref 136), (Value.int (389 : Int) 0), (Value.int (90 : Int) 0), (Value.str (Str.ofString "/claim/cut.py") 390)]), #[]⟩)
noncomputable def hd.o_156 : (Params → Obj) := (fun (P : Params) => ⟨Value.none, none, (Data.fields #[]), #[]⟩)
noncomputable def hd.o_172 : (Params → Obj) := (fun (P : Params) => ⟨(Value.type "getset_descriptor"), none, (Data.fields #[(Value.str (Str.ofString "__dict__") 366), (Value.ref 120), (Value.builtin "function.__dict__"), (Value.builtin "function.__dict__#set")]), #[]⟩)
noncomputable def hd.o_184 : (Params → Obj) := (fun (P : Params) => ⟨Value.none, none, (Data.fields #[]), #[]⟩)
noncomputable def hd.o_152 : (Params → Obj) := (fun (P : Params) => ⟨Value.none, none, (Data.func ⟨(Str.ofString "__init__"), (Str.ofString "Bloom.__init__"), pA17x0, FuncBody.stmts (pB17x0), pS17x0, 0, [], Value.none, Value.none, Value.none, Value.none, none, Value.none, Value.none, 0⟩), #[]⟩)
noncomputable def hd.o_168 : (Params → Obj) := (fun (P : Params) => ⟨(Value.type "function"), none, (Data.func ⟨(Str.ofString "may_have"), (Str.ofString "Bloom.may_have"), pA17x2, FuncBody.stmts (pB17x2), pS17x2, 3, [], Value.none, Value.none, Value.none, (Value.str (Str.ofString "raftkeep.blocks") 302), none, (Value.ref 116), Value.none, 0⟩), #[]⟩)
noncomputable def hd.o_192 : (Params → Obj) := (fun (P : Params) => ⟨Value.none, none, (Data.func ⟨(Str.ofString "_law_spots"), (Str.ofString "_law_spots"), pA21, FuncBody.stmts (pB21), pS21, 0, [], Value.none, Value.none, Value.none, Value.none, none, Value.none, Value.none, 0⟩), #[]⟩)
noncomputable def hd.o_160 : (Params → Obj) := (fun (P : Params) => ⟨(Value.type "code"), none, (Data.fields #[(Value.str (Str.ofString "make") 331), (Value.str (Str.ofString "Bloom.make") 332), (Value.str (Str.ofString "/claim/cut.py") 333), (Value.int (55 : Int) 0), (Value.int (2 : Int) 0), (Value.int (0 : Int) 0), (Value.int (0 : Int) 0), (Value.int (3 : Int) 0), (Value.ref 104), (Value.bool Bool.true), (Value.int (181 : Int) 0), (Value.ref 105), Value.none, (Value.ref 106), (Value.ref 107), (Value.ref 108), (Value.int (345 : Int) 0), (Value.int (55 : Int) 0), (Value.str (Str.ofString "/claim/cut.py") 346)]), #[]⟩)
noncomputable def hd.o_144 : (Params → Obj) := (fun (P : Params) => ⟨(Value.type "tuple"), none, (Data.seq #[] 0), #[]⟩)
noncomputable def hd.o_176 : (Params → Obj) := (fun (P : Params) => ⟨(Value.type "tuple"), none, (Data.seq #[] 0), #[]⟩)
noncomputable def hd.o_179 : (Params → Obj) := (fun (P : Params) => ⟨(Value.type "tuple"), none, (Data.seq #[] 0), #[]⟩)
noncomputable def hd.o_147 : (Params → Obj) := (fun (P : Params) => ⟨(Value.type "frame"), none, Data.plain, #[(some (Value.ref 95)), (some (Value.ref 3)), (some (Value.ref 92)), none, (some (Value.str (Str.ofString "raftkeep.blocks") 302)), none, (some (Value.ref 0))]⟩)
noncomputable def hd.o_163 : (Params → Obj) := (fun (P : Params) => ⟨Value.none, none, (Data.fields #[]), #[]⟩)
noncomputable def hd.o_187 : (Params → Obj) := (fun (P : Params) => ⟨Value.none, none, (Data.func ⟨(Str.ofString "_law_word"), (Str.ofString "_law_word"), pA20, FuncBody.stmts (pB20), pS20, 0, [], Value.none, Value.none, Value.none, Value.none, none, Value.none, Value.none, 0⟩), #[]⟩)
noncomputable def hd.o_155 : (Params → Obj) := (fun (P : Params) => ⟨(Value.type "tuple"), none, (Data.seq #[] 0), #[]⟩)
noncomputable def hd.o_171 : (Params → Obj) := (fun (P : Params) => ⟨(Value.type "type"), none, (Data.cls ⟨(Str.ofString "Bloom"), [(Value.type "object")], [(Value.ref 120), (Value.type "object")], 119, (Str.ofString "Bloom"), Bool.true, [], [], Bool.false, none, Bool.false⟩), #[none, none, (some (Value.str (Str.ofString "Bloom") 310)), (some (Value.str (Str.ofString "Bloom") 318)), (some (Value.builtin "object.__new__")), (some (Value.bool Bool.true))]⟩)
noncomputable def hd.o_140 : (Params → Obj) := (fun (P : Params) => ⟨Value.none, none, (Data.fields #[(Value.int (2 : Int) 0), (Value.int (0 : Int) 0), (Value.ref 20), (Value.int (4 : Int) 0), (Value.int (0 : Int) 0), (Value.ref 33), (Value.int (6 : Int) 0), (Value.int (0 : Int) 0), (Value.ref 45), (Value.int (8 : Int) 0), (Value.int (0 : Int) 0), (Value.ref 57), (Value.int (10 : Int) 0), (Value.int (0 : Int) 0), (Value.ref 69), (Value.int (17 : Int) 0), (Value.int (0 : Int) 0), (Value.ref 81), (Value.int (21 : Int) 0), (Value.int (0 : Int) 0), (Value.ref 88), (Value.int (42 : Int) 0), (Value.int (0 : Int) 0), (Value.ref 95), (Value.int (88 : Int) 0), (Value.int (0 : Int) 0), (Value.ref 130), (Value.int (90 : Int) 0), (Value.int (0 : Int) 0), (Value.ref 137), (Value.int (94 : Int) 0), (Value.int (0 : Int) 0), (Value.ref 142)]), #[]⟩)
noncomputable def hd.o_183 : (Params → Obj) := (fun (P : Params) => ⟨(Value.type "tuple"), none, (Data.seq #[] 0), #[]⟩)
noncomputable def hd.o_151 : (Params → Obj) := (fun (P : Params) => ⟨(Value.type "tuple"), none, (Data.seq #[] 0), #[]⟩)
noncomputable def hd.o_167 : (Params → Obj) := (fun (P : Params) => ⟨(Value.type "code"), none, (Data.fields #[(Value.str (Str.ofString "may_have") 348), (Value.str (Str.ofString "Bloom.may_have") 349), (Value.str (Str.ofString "/claim/cut.py") 350), (Value.int (72 : Int) 0), (Value.int (3 : Int) 0), (Value.int (0 : Int) 0), (Value.int (0 : Int) 0), (Value.int (3 : Int) 0), (Value.ref 111), (Value.bool Bool.true), (Value.int (181 : Int) 0), (Value.ref 112), Value.none, (Value.ref 113), (Value.ref 114), (Value.ref 115), (Value.int (360 : Int) 0), (Value.int (72 : Int) 0), (Value.str (Str.ofString "/claim/cut.py") 361)]), #[]⟩)
noncomputable def hd.o_191 : (Params → Obj) := (fun (P : Params) => ⟨Value.none, none, (Data.fields #[]), #[]⟩)
noncomputable def hd.o_159 : (Params → Obj) := (fun (P : Params) => ⟨Value.none, none, (Data.func ⟨(Str.ofString "make"), (Str.ofString "Bloom.make"), pA17x1, FuncBody.stmts (pB17x1), pS17x1, 0, [], Value.none, Value.none, Value.none, Value.none, none, Value.none, Value.none, 0⟩), #[]⟩)
noncomputable def hd.o_143 : (Params → Obj) := (fun (P : Params) => ⟨(Value.type "dict"), none, (Data.dict #[⟨(PyData.keyHash P (Str.ofString "__module__")), (Value.str (Str.ofString "__module__") 317), (Value.str (Str.ofString "raftkeep.blocks") 302)⟩, ⟨(PyData.keyHash P (Str.ofString "__qualname__")), (Value.str (Str.ofString "__qualname__") 319), (Value.str (Str.ofString "Bloom") 318)⟩, ⟨(PyData.keyHash P (Str.ofString "__firstlineno__")), (Value.str (Str.ofString "__firstlineno__") 321), (Value.int (42 : Int) 320)⟩, ⟨(PyData.keyHash P (Str.ofString "__init__")), (Value.str (Str.ofString "__init__") 330), (Value.ref 103)⟩, ⟨(PyData.keyHash P (Str.ofString "make")), (Value.str (Str.ofString "make") 347), (Value.ref 110)⟩, ⟨(PyData.keyHash P (Str.ofString "may_have")), (Value.str (Str.ofString "may_have") 362), (Value.ref 117)⟩, ⟨(PyData.keyHash P (Str.ofString "__static_attributes__")), (Value.str (Str.ofString "__static_attributes__") 365), (Value.ref 118)⟩] 7), #[]⟩)
noncomputable def hd.o_175 : (Params → Obj) := (fun (P : Params) => ⟨(Value.type "builtin_function_or_method"), none, (Data.fields #[(Value.builtin "object.__init_subclass__"), (Value.ref 120)]), #[]⟩)
noncomputable def hd.o_181 : (Params → Obj) := (fun (P : Params) => ⟨(Value.type "code"), none, (Data.fields #[(Value.str (Str.ofString "_law_draw") 375), (Value.str (Str.ofString "_law_draw") 376), (Value.str (Str.ofString "/claim/cut.py") 377), (Value.int (88 : Int) 0), (Value.int (2 : Int) 0), (Value.int (0 : Int) 0), (Value.int (0 : Int) 0), (Value.int (3 : Int) 0), (Value.ref 125), (Value.bool Bool.true), (Value.int (181 : Int) 0), (Value.ref 126), Value.none, (Value.ref 127), (Value.ref 128), (Value.ref 129), (Value.int (380 : Int) 0), (Value.int (88 : Int) 0), (Value.str (Str.ofString "/claim/cut.py") 381)]), #[]⟩)
noncomputable def hd.o_149 : (Params → Obj) := (fun (P : Params) => ⟨Value.none, none, (Data.fields #[]), #[]⟩)
noncomputable def hd.o_165 : (Params → Obj) := (fun (P : Params) => ⟨(Value.type "tuple"), none, (Data.seq #[] 0), #[]⟩)
noncomputable def hd.o_189 : (Params → Obj) := (fun (P : Params) => ⟨(Value.type "function"), none, (Data.func ⟨(Str.ofString "_law_word"), (Str.ofString "_law_word"), pA20, FuncBody.stmts (pB20), pS20, 3, [], Value.none, Value.none, Value.none, (Value.str (Str.ofString "law_xm0845_01") 373), none, (Value.ref 137), Value.none, 0⟩), #[]⟩)
noncomputable def hd.o_157 : (Params → Obj) := (fun (P : Params) => ⟨(Value.type "tuple"), none, (Data.seq #[(Value.str (Str.ofString "self") 334), (Value.str (Str.ofString "keys") 335), (Value.str (Str.ofString "wanted") 336), (Value.str (Str.ofString "length") 337), (Value.str (Str.ofString "wide") 338), (Value.str (Str.ofString "out") 339), (Value.str (Str.ofString "key") 340), (Value.str (Str.ofString "h") 341), (Value.str (Str.ofString "delta") 342), (Value.str (Str.ofString "probe") 343), (Value.str (Str.ofString "place") 344)] 0), #[]⟩)
noncomputable def hd.o_141 : (Params → Obj) := (fun (P : Params) => ⟨(Value.type "tuple"), none, (Data.seq #[] 0), #[]⟩)
noncomputable def hd.o_173 : (Params → Obj) := (fun (P : Params) => ⟨(Value.type "getset_descriptor"), none, (Data.fields #[(Value.str (Str.ofString "__weakref__") 368), (Value.ref 120), (Value.builtin "ExceptionGroup.__weakref__"), Value.none]), #[]⟩)
noncomputable def hd.o_185 : (Params → Obj) := (fun (P : Params) => ⟨(Value.type "tuple"), none, (Data.seq #[(Value.str (Str.ofString "y") 386), (Value.str (Str.ofString "size") 387), (Value.str (Str.ofString "tail") 388)] 0), #[]⟩)
noncomputable def hd.o_153 : (Params → Obj) := (fun (P : Params) => ⟨(Value.type "code"), none, (Data.fields #[(Value.str (Str.ofString "__init__") 322), (Value.str (Str.ofString "Bloom.__init__") 323), (Value.str (Str.ofString "/claim/cut.py") 324), (Value.int (44 : Int) 0), (Value.int (2 : Int) 0), (Value.int (0 : Int) 0), (Value.int (0 : Int) 0), (Value.int (3 : Int) 0), (Value.ref 97), (Value.bool Bool.true), (Value.int (181 : Int) 0), (Value.ref 98), Value.none, (Value.ref 99), (Value.ref 100), (Value.ref 101), (Value.int (328 : Int) 0), (Value.int (44 : Int) 0), (Value.str (Str.ofString "/claim/cut.py") 329)]), #[]⟩)
noncomputable def hd.o_169 : (Params → Obj) := (fun (P : Params) => ⟨(Value.type "tuple"), none, (Data.seq #[(Value.str (Str.ofString "bits") 363), (Value.str (Str.ofString "probes") 364)] 0), #[]⟩)
noncomputable def hd.o_193 : (Params → Obj) := (fun (P : Params) => ⟨(Value.type "code"), none, (Data.fields #[(Value.str (Str.ofString "_law_spots") 392), (Value.str (Str.ofString "_law_spots") 393), (Value.str (Str.ofString "/claim/cut.py") 394), (Value.int (94 : Int) 0), (Value.int (3 : Int) 0), (Value.int (0 : Int) 0), (Value.int (0 : Int) 0), (Value.int (3 : Int) 0), (Value.ref 139), (Value.bool Bool.true), (Value.int (181 : Int) 0), (Value.ref 140), Value.none, Value.none, Value.none, (Value.ref 141), (Value.int (395 : Int) 0), (Value.int (94 : Int) 0), (Value.str (Str.ofString "/claim/cut.py") 396)]), #[]⟩)
noncomputable def hd.o_161 : (Params → Obj) := (fun (P : Params) => ⟨(Value.type "function"), none, (Data.func ⟨(Str.ofString "make"), (Str.ofString "Bloom.make"), pA17x1, FuncBody.stmts (pB17x1), pS17x1, 3, [], Value.none, Value.none, Value.none, (Value.str (Str.ofString "raftkeep.blocks") 302), none, (Value.ref 109), Value.none, 0⟩), #[]⟩)
noncomputable def hd.o_145 : (Params → Obj) := (fun (P : Params) => ⟨Value.none, none, (Data.fields #[(Value.int (44 : Int) 0), (Value.int (4 : Int) 0), (Value.ref 102), (Value.int (55 : Int) 0), (Value.int (4 : Int) 0), (Value.ref 109), (Value.int (72 : Int) 0), (Value.int (4 : Int) 0), (Value.ref 116)]), #[]⟩)
noncomputable def hd.o_177 : (Params → Obj) := (fun (P : Params) => ⟨Value.none, none, (Data.fields #[]), #[]⟩)
noncomputable def hd.tree_194 : (Params → BT) := (fun (P : Params) => (BT.node (boot_o_0 P) (BT.node (boot_o_1 P) (BT.node (hd.o_139 P) (BT.node (boot_o_7 P) (BT.node (hd.o_52 P) (BT.node (hd.o_71 P) (BT.node (hd.o_109 P) (BT.node (hd.o_178 P) BT.nil BT.nil) BT.nil) (BT.node (hd.o_146 P) BT.nil BT.nil)) (BT.node (hd.o_90 P) (BT.node (hd.o_128 P) (BT.node (hd.o_194 P) BT.nil BT.nil) BT.nil) (BT.node (hd.o_162 P) BT.nil BT.nil))) (BT.node (hd.o_60 P) (BT.node (hd.o_79 P) (BT.node (hd.o_120 P) (BT.node (hd.o_186 P) BT.nil BT.nil) BT.nil) (BT.node (hd.o_154 P) BT.nil BT.nil)) (BT.node (hd.o_101 P) (BT.node (hd.o_136 P) BT.nil BT.nil) (BT.node (hd.o_170 P) BT.nil BT.nil)))) (BT.node (hd.o_43 P) (BT.node (hd.o_56 P) (BT.node (hd.o_75 P) (BT.node (hd.o_116 P) (BT.node (hd.o_182 P) BT.nil BT.nil) BT.nil) (BT.node (hd.o_150 P) BT.nil BT.nil)) (BT.node (hd.o_94 P) (BT.node (hd.o_132 P) BT.nil BT.nil) (BT.node (hd.o_166 P) BT.nil BT.nil))) (BT.node (hd.o_64 P) (BT.node (hd.o_86 P) (BT.node (hd.o_124 P) (BT.node (hd.o_190 P) BT.nil BT.nil) BT.nil) (BT.node (hd.o_158 P) BT.nil BT.nil)) (BT.node (hd.o_105 P) (BT.node (hd.o_142 P) BT.nil BT.nil) (BT.node (hd.o_174 P) BT.nil BT.nil))))) (BT.node (boot_o_5 P) (BT.node (boot_o_9 P) (BT.node (hd.o_54 P) (BT.node (hd.o_73 P) (BT.node (hd.o_114 P) (BT.node (hd.o_180 P) BT.nil BT.nil) BT.nil) (BT.node (hd.o_148 P) BT.nil BT.nil)) (BT.node (hd.o_97 P) (BT.node (hd.o_130 P) BT.nil BT.nil) (BT.node (hd.o_164 P) BT.nil BT.nil))) (BT.node (hd.o_62 P) (BT.node (hd.o_84 P) (BT.node (hd.o_122 P) (BT.node (hd.o_188 P) BT.nil BT.nil) BT.nil) (BT.node (hd.o_156 P) BT.nil BT.nil)) (BT.node (hd.o_103 P) (BT.node (hd.o_138 P) BT.nil BT.nil) (BT.node (hd.o_172 P) BT.nil BT.nil)))) (BT.node (hd.o_45 P) (BT.node (hd.o_58 P) (BT.node (hd.o_112 P) (BT.node (hd.o_118 P) (BT.node (hd.o_184 P) BT.nil BT.nil) BT.nil) (BT.node (hd.o_152 P) BT.nil BT.nil)) (BT.node (hd.o_99 P) (BT.node (hd.o_134 P) BT.nil BT.nil) (BT.node (hd.o_168 P) BT.nil BT.nil))) (BT.node (hd.o_69 P) (BT.node (hd.o_88 P) (BT.node (hd.o_126 P) (BT.node (hd.o_192 P) BT.nil BT.nil) BT.nil) (BT.node (hd.o_160 P) BT.nil BT.nil)) (BT.node (hd.o_107 P) (BT.node (hd.o_144 P) BT.nil BT.nil) (BT.node (hd.o_176 P) BT.nil BT.nil)))))) (BT.node (hd.o_49 P) (BT.node (boot_o_4 P) (BT.node (boot_o_8 P) (BT.node (hd.o_53 P) (BT.node (hd.o_72 P) (BT.node (hd.o_113 P) (BT.node (hd.o_179 P) BT.nil BT.nil) BT.nil) (BT.node (hd.o_147 P) BT.nil BT.nil)) (BT.node (hd.o_91 P) (BT.node (hd.o_129 P) BT.nil BT.nil) (BT.node (hd.o_163 P) BT.nil BT.nil))) (BT.node (hd.o_67 P) (BT.node (hd.o_83 P) (BT.node (hd.o_121 P) (BT.node (hd.o_187 P) BT.nil BT.nil) BT.nil) (BT.node (hd.o_155 P) BT.nil BT.nil)) (BT.node (hd.o_102 P) (BT.node (hd.o_137 P) BT.nil BT.nil) (BT.node (hd.o_171 P) BT.nil BT.nil)))) (BT.node (hd.o_140 P) (BT.node (hd.o_57 P) (BT.node (hd.o_76 P) (BT.node (hd.o_117 P) (BT.node (hd.o_183 P) BT.nil BT.nil) BT.nil) (BT.node (hd.o_151 P) BT.nil BT.nil)) (BT.node (hd.o_98 P) (BT.node (hd.o_133 P) BT.nil BT.nil) (BT.node (hd.o_167 P) BT.nil BT.nil))) (BT.node (hd.o_68 P) (BT.node (hd.o_87 P) (BT.node (hd.o_125 P) (BT.node (hd.o_191 P) BT.nil BT.nil) BT.nil) (BT.node (hd.o_159 P) BT.nil BT.nil)) (BT.node (hd.o_106 P) (BT.node (hd.o_143 P) BT.nil BT.nil) (BT.node (hd.o_175 P) BT.nil BT.nil))))) (BT.node (boot_o_6 P) (BT.node (boot_o_10 P) (BT.node (hd.o_55 P) (BT.node (hd.o_74 P) (BT.node (hd.o_115 P) (BT.node (hd.o_181 P) BT.nil BT.nil) BT.nil) (BT.node (hd.o_149 P) BT.nil BT.nil)) (BT.node (hd.o_93 P) (BT.node (hd.o_131 P) BT.nil BT.nil) (BT.node (hd.o_165 P) BT.nil BT.nil))) (BT.node (hd.o_63 P) (BT.node (hd.o_85 P) (BT.node (hd.o_123 P) (BT.node (hd.o_189 P) BT.nil BT.nil) BT.nil) (BT.node (hd.o_157 P) BT.nil BT.nil)) (BT.node (hd.o_104 P) (BT.node (hd.o_141 P) BT.nil BT.nil) (BT.node (hd.o_173 P) BT.nil BT.nil)))) (BT.node (hd.o_46 P) (BT.node (hd.o_59 P) (BT.node (hd.o_78 P) (BT.node (hd.o_119 P) (BT.node (hd.o_185 P) BT.nil BT.nil) BT.nil) (BT.node (hd.o_153 P) BT.nil BT.nil)) (BT.node (hd.o_100 P) (BT.node (hd.o_135 P) BT.nil BT.nil) (BT.node (hd.o_169 P) BT.nil BT.nil))) (BT.node (hd.o_70 P) (BT.node (hd.o_89 P) (BT.node (hd.o_127 P) (BT.node (hd.o_193 P) BT.nil BT.nil) BT.nil) (BT.node (hd.o_161 P) BT.nil BT.nil)) (BT.node (hd.o_108 P) (BT.node (hd.o_145 P) BT.nil BT.nil) (BT.node (hd.o_177 P) BT.nil BT.nil))))))))
noncomputable def hd.o_195 : (Params → Obj) := (fun (P : Params) => ⟨(Value.type "dict"), none, (Data.dict #[⟨(PyData.keyHash P (Str.ofString "__name__")), (Value.str (Str.ofString "__name__") 165), (Value.str (Str.ofString "law_xm0845_01") 373)⟩, ⟨(PyData.keyHash P (Str.ofString "__doc__")), (Value.str (Str.ofString "__doc__") 166), Value.none⟩, ⟨(PyData.keyHash P (Str.ofString "__package__")), (Value.str (Str.ofString "__package__") 167), Value.none⟩, ⟨(PyData.keyHash P (Str.ofString "__loader__")), (Value.str (Str.ofString "__loader__") 168), (Value.builtin "__main__.__loader__#opaque")⟩, ⟨(PyData.keyHash P (Str.ofString "__spec__")), (Value.str (Str.ofString "__spec__") 169), Value.none⟩, ⟨(PyData.keyHash P (Str.ofString "__annotations__")), (Value.str (Str.ofString "__annotations__") 170), (Value.ref 6)⟩, ⟨(PyData.keyHash P (Str.ofString "__builtins__")), (Value.str (Str.ofString "__builtins__") 171), (Value.ref 4)⟩, ⟨(PyData.keyHash P (Str.ofString "__file__")), (Value.str (Str.ofString "__file__") 173), (Value.str (Str.ofString "/claim/cut.py") 172)⟩, ⟨(PyData.keyHash P (Str.ofString "__cached__")), (Value.str (Str.ofString "__cached__") 174), Value.none⟩, ⟨(PyData.keyHash P (Str.ofString "KeepError")), (Value.str (Str.ofString "KeepError") 208), (Value.ref 24)⟩, ⟨(PyData.keyHash P (Str.ofString "StoreError")), (Value.str (Str.ofString "StoreError") 224), (Value.ref 37)⟩, ⟨(PyData.keyHash P (Str.ofString "Corrupt")), (Value.str (Str.ofString "Corrupt") 240), (Value.ref 49)⟩, ⟨(PyData.keyHash P (Str.ofString "ShortOctets")), (Value.str (Str.ofString "ShortOctets") 256), (Value.ref 61)⟩, ⟨(PyData.keyHash P (Str.ofString "BadOption")), (Value.str (Str.ofString "BadOption") 272), (Value.ref 73)⟩, ⟨(PyData.keyHash P (Str.ofString "MAX_32")), (Value.str (Str.ofString "MAX_32") 276), (Value.int (4294967295 : Int) 275)⟩, ⟨(PyData.keyHash P (Str.ofString "HASH_SEED")), (Value.str (Str.ofString "HASH_SEED") 278), (Value.int (3164544308 : Int) 277)⟩, ⟨(PyData.keyHash P (Str.ofString "HASH_MUL")), (Value.str (Str.ofString "HASH_MUL") 280), (Value.int (3332679571 : Int) 279)⟩, ⟨(PyData.keyHash P (Str.ofString "HASH_SHIFT")), (Value.str (Str.ofString "HASH_SHIFT") 282), (Value.int (24 : Int) 281)⟩, ⟨(PyData.keyHash P (Str.ofString "read_fixed32")), (Value.str (Str.ofString "read_fixed32") 290), (Value.ref 82)⟩, ⟨(PyData.keyHash P (Str.ofString "bloom_hash")), (Value.str (Str.ofString "bloom_hash") 301), (Value.ref 89)⟩, ⟨(PyData.keyHash P (Str.ofString "MOST_PROBES")), (Value.str (Str.ofString "MOST_PROBES") 305), (Value.int (30 : Int) 304)⟩, ⟨(PyData.keyHash P (Str.ofString "LEAST_FILTER_BITS")), (Value.str (Str.ofString "LEAST_FILTER_BITS") 307), (Value.int (64 : Int) 306)⟩, ⟨(PyData.keyHash P (Str.ofString "WORD")), (Value.str (Str.ofString "WORD") 309), (Value.int (4294967295 : Int) 308)⟩, ⟨(PyData.keyHash P (Str.ofString "Bloom")), (Value.str (Str.ofString "Bloom") 372), (Value.ref 120)⟩, ⟨(PyData.keyHash P (Str.ofString "_law_draw")), (Value.str (Str.ofString "_law_draw") 382), (Value.ref 131)⟩, ⟨(PyData.keyHash P (Str.ofString "_law_word")), (Value.str (Str.ofString "_law_word") 391), (Value.ref 138)⟩, ⟨(PyData.keyHash P (Str.ofString "_law_spots")), (Value.str (Str.ofString "_law_spots") 397), (Value.ref 143)⟩, ⟨(PyData.keyHash P (Str.ofString "_law_filter")), (Value.str (Str.ofString "_law_filter") 411), (Value.ref 150)⟩, ⟨(PyData.keyHash P (Str.ofString "law")), (Value.str (Str.ofString "law") 417), (Value.ref 155)⟩] 29), #[]⟩)
noncomputable def hd.o_204 : (Params → Obj) := (fun (P : Params) => ⟨(Value.type "tuple"), none, (Data.seq #[] 0), #[]⟩)
noncomputable def hd.o_200 : (Params → Obj) := (fun (P : Params) => ⟨(Value.type "tuple"), none, (Data.seq #[] 0), #[]⟩)
noncomputable def hd.o_208 : (Params → Obj) := (fun (P : Params) => ⟨(Value.type "function"), none, (Data.func ⟨(Str.ofString "law"), (Str.ofString "law"), pA23, FuncBody.stmts (pB23), pS23, 3, [], Value.none, Value.none, Value.none, (Value.str (Str.ofString "law_xm0845_01") 373), none, (Value.ref 154), Value.none, 0⟩), #[]⟩)
noncomputable def hd.o_198 : (Params → Obj) := (fun (P : Params) => ⟨Value.none, none, (Data.fields #[]), #[]⟩)
noncomputable def hd.o_206 : (Params → Obj) := (fun (P : Params) => ⟨Value.none, none, (Data.func ⟨(Str.ofString "law"), (Str.ofString "law"), pA23, FuncBody.stmts (pB23), pS23, 0, [], Value.none, Value.none, Value.none, Value.none, none, Value.none, Value.none, 0⟩), #[]⟩)
noncomputable def hd.o_202 : (Params → Obj) := (fun (P : Params) => ⟨(Value.type "code"), none, (Data.fields #[(Value.str (Str.ofString "_law_filter") 398), (Value.str (Str.ofString "_law_filter") 399), (Value.str (Str.ofString "/claim/cut.py") 400), (Value.int (102 : Int) 0), (Value.int (3 : Int) 0), (Value.int (0 : Int) 0), (Value.int (0 : Int) 0), (Value.int (3 : Int) 0), (Value.ref 144), (Value.bool Bool.true), (Value.int (181 : Int) 0), (Value.ref 145), Value.none, (Value.ref 146), (Value.ref 147), (Value.ref 148), (Value.int (409 : Int) 0), (Value.int (102 : Int) 0), (Value.str (Str.ofString "/claim/cut.py") 410)]), #[]⟩)
noncomputable def hd.o_197 : (Params → Obj) := (fun (P : Params) => ⟨(Value.type "tuple"), none, (Data.seq #[] 0), #[]⟩)
noncomputable def hd.o_205 : (Params → Obj) := (fun (P : Params) => ⟨Value.none, none, (Data.fields #[]), #[]⟩)
noncomputable def hd.o_196 : (Params → Obj) := (fun (P : Params) => ⟨Value.none, none, (Data.fields #[(Value.int (2 : Int) 0), (Value.int (0 : Int) 0), (Value.ref 20), (Value.int (4 : Int) 0), (Value.int (0 : Int) 0), (Value.ref 33), (Value.int (6 : Int) 0), (Value.int (0 : Int) 0), (Value.ref 45), (Value.int (8 : Int) 0), (Value.int (0 : Int) 0), (Value.ref 57), (Value.int (10 : Int) 0), (Value.int (0 : Int) 0), (Value.ref 69), (Value.int (17 : Int) 0), (Value.int (0 : Int) 0), (Value.ref 81), (Value.int (21 : Int) 0), (Value.int (0 : Int) 0), (Value.ref 88), (Value.int (42 : Int) 0), (Value.int (0 : Int) 0), (Value.ref 95), (Value.int (88 : Int) 0), (Value.int (0 : Int) 0), (Value.ref 130), (Value.int (90 : Int) 0), (Value.int (0 : Int) 0), (Value.ref 137), (Value.int (94 : Int) 0), (Value.int (0 : Int) 0), (Value.ref 142), (Value.int (102 : Int) 0), (Value.int (0 : Int) 0), (Value.ref 149), (Value.int (113 : Int) 0), (Value.int (0 : Int) 0), (Value.ref 154)]), #[]⟩)
noncomputable def hd.o_201 : (Params → Obj) := (fun (P : Params) => ⟨Value.none, none, (Data.func ⟨(Str.ofString "_law_filter"), (Str.ofString "_law_filter"), pA22, FuncBody.stmts (pB22), pS22, 0, [], Value.none, Value.none, Value.none, Value.none, none, Value.none, Value.none, 0⟩), #[]⟩)
noncomputable def hd.o_199 : (Params → Obj) := (fun (P : Params) => ⟨(Value.type "tuple"), none, (Data.seq #[(Value.str (Str.ofString "rows") 401), (Value.str (Str.ofString "octets") 402), (Value.str (Str.ofString "probes") 403), (Value.str (Str.ofString "places") 404), (Value.str (Str.ofString "spots") 405), (Value.str (Str.ofString "lit") 406), (Value.str (Str.ofString "before") 407), (Value.str (Str.ofString "place") 408)] 0), #[]⟩)
noncomputable def hd.o_207 : (Params → Obj) := (fun (P : Params) => ⟨(Value.type "code"), none, (Data.fields #[(Value.str (Str.ofString "law") 412), (Value.str (Str.ofString "law") 413), (Value.str (Str.ofString "/claim/cut.py") 414), (Value.int (113 : Int) 0), (Value.int (1 : Int) 0), (Value.int (0 : Int) 0), (Value.int (0 : Int) 0), (Value.int (3 : Int) 0), (Value.ref 151), (Value.bool Bool.true), (Value.int (181 : Int) 0), (Value.ref 152), Value.none, Value.none, Value.none, (Value.ref 153), (Value.int (415 : Int) 0), (Value.int (113 : Int) 0), (Value.str (Str.ofString "/claim/cut.py") 416)]), #[]⟩)
noncomputable def hd.o_203 : (Params → Obj) := (fun (P : Params) => ⟨(Value.type "function"), none, (Data.func ⟨(Str.ofString "_law_filter"), (Str.ofString "_law_filter"), pA22, FuncBody.stmts (pB22), pS22, 3, [], Value.none, Value.none, Value.none, (Value.str (Str.ofString "law_xm0845_01") 373), none, (Value.ref 149), Value.none, 0⟩), #[]⟩)
noncomputable def hd.tree_208 : (Params → BT) := (fun (P : Params) => (BT.node (boot_o_0 P) (BT.node (boot_o_1 P) (BT.node (hd.o_195 P) (BT.node (boot_o_7 P) (BT.node (hd.o_52 P) (BT.node (hd.o_71 P) (BT.node (hd.o_109 P) (BT.node (hd.o_178 P) BT.nil BT.nil) BT.nil) (BT.node (hd.o_146 P) BT.nil BT.nil)) (BT.node (hd.o_90 P) (BT.node (hd.o_128 P) (BT.node (hd.o_194 P) BT.nil BT.nil) BT.nil) (BT.node (hd.o_162 P) BT.nil BT.nil))) (BT.node (hd.o_60 P) (BT.node (hd.o_79 P) (BT.node (hd.o_120 P) (BT.node (hd.o_186 P) BT.nil BT.nil) BT.nil) (BT.node (hd.o_154 P) BT.nil BT.nil)) (BT.node (hd.o_101 P) (BT.node (hd.o_136 P) (BT.node (hd.o_204 P) BT.nil BT.nil) BT.nil) (BT.node (hd.o_170 P) BT.nil BT.nil)))) (BT.node (hd.o_43 P) (BT.node (hd.o_56 P) (BT.node (hd.o_75 P) (BT.node (hd.o_116 P) (BT.node (hd.o_182 P) BT.nil BT.nil) BT.nil) (BT.node (hd.o_150 P) BT.nil BT.nil)) (BT.node (hd.o_94 P) (BT.node (hd.o_132 P) (BT.node (hd.o_200 P) BT.nil BT.nil) BT.nil) (BT.node (hd.o_166 P) BT.nil BT.nil))) (BT.node (hd.o_64 P) (BT.node (hd.o_86 P) (BT.node (hd.o_124 P) (BT.node (hd.o_190 P) BT.nil BT.nil) BT.nil) (BT.node (hd.o_158 P) BT.nil BT.nil)) (BT.node (hd.o_105 P) (BT.node (hd.o_142 P) (BT.node (hd.o_208 P) BT.nil BT.nil) BT.nil) (BT.node (hd.o_174 P) BT.nil BT.nil))))) (BT.node (boot_o_5 P) (BT.node (boot_o_9 P) (BT.node (hd.o_54 P) (BT.node (hd.o_73 P) (BT.node (hd.o_114 P) (BT.node (hd.o_180 P) BT.nil BT.nil) BT.nil) (BT.node (hd.o_148 P) BT.nil BT.nil)) (BT.node (hd.o_97 P) (BT.node (hd.o_130 P) (BT.node (hd.o_198 P) BT.nil BT.nil) BT.nil) (BT.node (hd.o_164 P) BT.nil BT.nil))) (BT.node (hd.o_62 P) (BT.node (hd.o_84 P) (BT.node (hd.o_122 P) (BT.node (hd.o_188 P) BT.nil BT.nil) BT.nil) (BT.node (hd.o_156 P) BT.nil BT.nil)) (BT.node (hd.o_103 P) (BT.node (hd.o_138 P) (BT.node (hd.o_206 P) BT.nil BT.nil) BT.nil) (BT.node (hd.o_172 P) BT.nil BT.nil)))) (BT.node (hd.o_45 P) (BT.node (hd.o_58 P) (BT.node (hd.o_112 P) (BT.node (hd.o_118 P) (BT.node (hd.o_184 P) BT.nil BT.nil) BT.nil) (BT.node (hd.o_152 P) BT.nil BT.nil)) (BT.node (hd.o_99 P) (BT.node (hd.o_134 P) (BT.node (hd.o_202 P) BT.nil BT.nil) BT.nil) (BT.node (hd.o_168 P) BT.nil BT.nil))) (BT.node (hd.o_69 P) (BT.node (hd.o_88 P) (BT.node (hd.o_126 P) (BT.node (hd.o_192 P) BT.nil BT.nil) BT.nil) (BT.node (hd.o_160 P) BT.nil BT.nil)) (BT.node (hd.o_107 P) (BT.node (hd.o_144 P) BT.nil BT.nil) (BT.node (hd.o_176 P) BT.nil BT.nil)))))) (BT.node (hd.o_49 P) (BT.node (boot_o_4 P) (BT.node (boot_o_8 P) (BT.node (hd.o_53 P) (BT.node (hd.o_72 P) (BT.node (hd.o_113 P) (BT.node (hd.o_179 P) BT.nil BT.nil) BT.nil) (BT.node (hd.o_147 P) BT.nil BT.nil)) (BT.node (hd.o_91 P) (BT.node (hd.o_129 P) (BT.node (hd.o_197 P) BT.nil BT.nil) BT.nil) (BT.node (hd.o_163 P) BT.nil BT.nil))) (BT.node (hd.o_67 P) (BT.node (hd.o_83 P) (BT.node (hd.o_121 P) (BT.node (hd.o_187 P) BT.nil BT.nil) BT.nil) (BT.node (hd.o_155 P) BT.nil BT.nil)) (BT.node (hd.o_102 P) (BT.node (hd.o_137 P) (BT.node (hd.o_205 P) BT.nil BT.nil) BT.nil) (BT.node (hd.o_171 P) BT.nil BT.nil)))) (BT.node (hd.o_196 P) (BT.node (hd.o_57 P) (BT.node (hd.o_76 P) (BT.node (hd.o_117 P) (BT.node (hd.o_183 P) BT.nil BT.nil) BT.nil) (BT.node (hd.o_151 P) BT.nil BT.nil)) (BT.node (hd.o_98 P) (BT.node (hd.o_133 P) (BT.node (hd.o_201 P) BT.nil BT.nil) BT.nil) (BT.node (hd.o_167 P) BT.nil BT.nil))) (BT.node (hd.o_68 P) (BT.node (hd.o_87 P) (BT.node (hd.o_125 P) (BT.node (hd.o_191 P) BT.nil BT.nil) BT.nil) (BT.node (hd.o_159 P) BT.nil BT.nil)) (BT.node (hd.o_106 P) (BT.node (hd.o_143 P) BT.nil BT.nil) (BT.node (hd.o_175 P) BT.nil BT.nil))))) (BT.node (boot_o_6 P) (BT.node (boot_o_10 P) (BT.node (hd.o_55 P) (BT.node (hd.o_74 P) (BT.node (hd.o_115 P) (BT.node (hd.o_181 P) BT.nil BT.nil) BT.nil) (BT.node (hd.o_149 P) BT.nil BT.nil)) (BT.node (hd.o_93 P) (BT.node (hd.o_131 P) (BT.node (hd.o_199 P) BT.nil BT.nil) BT.nil) (BT.node (hd.o_165 P) BT.nil BT.nil))) (BT.node (hd.o_63 P) (BT.node (hd.o_85 P) (BT.node (hd.o_123 P) (BT.node (hd.o_189 P) BT.nil BT.nil) BT.nil) (BT.node (hd.o_157 P) BT.nil BT.nil)) (BT.node (hd.o_104 P) (BT.node (hd.o_141 P) (BT.node (hd.o_207 P) BT.nil BT.nil) BT.nil) (BT.node (hd.o_173 P) BT.nil BT.nil)))) (BT.node (hd.o_46 P) (BT.node (hd.o_59 P) (BT.node (hd.o_78 P) (BT.node (hd.o_119 P) (BT.node (hd.o_185 P) BT.nil BT.nil) BT.nil) (BT.node (hd.o_153 P) BT.nil BT.nil)) (BT.node (hd.o_100 P) (BT.node (hd.o_135 P) (BT.node (hd.o_203 P) BT.nil BT.nil) BT.nil) (BT.node (hd.o_169 P) BT.nil BT.nil))) (BT.node (hd.o_70 P) (BT.node (hd.o_89 P) (BT.node (hd.o_127 P) (BT.node (hd.o_193 P) BT.nil BT.nil) BT.nil) (BT.node (hd.o_161 P) BT.nil BT.nil)) (BT.node (hd.o_108 P) (BT.node (hd.o_145 P) BT.nil BT.nil) (BT.node (hd.o_177 P) BT.nil BT.nil))))))))
noncomputable def hd.heap_209 : (Params → Heap) := (fun (P : Params) => ⟨(@Array.mk Obj [(boot_o_0 P), (boot_o_1 P), (hd.o_49 P), (hd.o_195 P), (boot_o_4 P), (boot_o_5 P), (boot_o_6 P), (boot_o_7 P), (boot_o_8 P), (boot_o_9 P), (boot_o_10 P), (hd.o_43 P), (hd.o_196 P), (hd.o_45 P), (hd.o_46 P), (hd.o_52 P), (hd.o_53 P), (hd.o_54 P), (hd.o_55 P), (hd.o_56 P), (hd.o_57 P), (hd.o_58 P), (hd.o_59 P), (hd.o_60 P), (hd.o_67 P), (hd.o_62 P), (hd.o_63 P), (hd.o_64 P), (hd.o_68 P), (hd.o_69 P), (hd.o_70 P), (hd.o_71 P), (hd.o_72 P), (hd.o_73 P), (hd.o_74 P), (hd.o_75 P), (hd.o_76 P), (hd.o_112 P), (hd.o_78 P), (hd.o_79 P), (hd.o_83 P), (hd.o_84 P), (hd.o_85 P), (hd.o_86 P), (hd.o_87 P), (hd.o_88 P), (hd.o_89 P), (hd.o_90 P), (hd.o_91 P), (hd.o_97 P), (hd.o_93 P), (hd.o_94 P), (hd.o_98 P), (hd.o_99 P), (hd.o_100 P), (hd.o_101 P), (hd.o_102 P), (hd.o_103 P), (hd.o_104 P), (hd.o_105 P), (hd.o_106 P), (hd.o_107 P), (hd.o_108 P), (hd.o_109 P), (hd.o_113 P), (hd.o_114 P), (hd.o_115 P), (hd.o_116 P), (hd.o_117 P), (hd.o_118 P), (hd.o_119 P), (hd.o_120 P), (hd.o_121 P), (hd.o_122 P), (hd.o_123 P), (hd.o_124 P), (hd.o_125 P), (hd.o_126 P), (hd.o_127 P), (hd.o_128 P), (hd.o_129 P), (hd.o_130 P), (hd.o_131 P), (hd.o_132 P), (hd.o_133 P), (hd.o_134 P), (hd.o_135 P), (hd.o_136 P), (hd.o_137 P), (hd.o_138 P), (hd.o_141 P), (hd.o_142 P), (hd.o_143 P), (hd.o_144 P), (hd.o_145 P), (hd.o_146 P), (hd.o_147 P), (hd.o_148 P), (hd.o_149 P), (hd.o_150 P), (hd.o_151 P), (hd.o_152 P), (hd.o_153 P), (hd.o_154 P), (hd.o_155 P), (hd.o_156 P), (hd.o_157 P), (hd.o_158 P), (hd.o_159 P), (hd.o_160 P), (hd.o_161 P), (hd.o_162 P), (hd.o_163 P), (hd.o_164 P), (hd.o_165 P), (hd.o_166 P), (hd.o_167 P), (hd.o_168 P), (hd.o_169 P), (hd.o_170 P), (hd.o_171 P), (hd.o_172 P), (hd.o_173 P), (hd.o_174 P), (hd.o_175 P), (hd.o_176 P), (hd.o_177 P), (hd.o_178 P), (hd.o_179 P), (hd.o_180 P), (hd.o_181 P), (hd.o_182 P), (hd.o_183 P), (hd.o_184 P), (hd.o_185 P), (hd.o_186 P), (hd.o_187 P), (hd.o_188 P), (hd.o_189 P), (hd.o_190 P), (hd.o_191 P), (hd.o_192 P), (hd.o_193 P), (hd.o_194 P), (hd.o_197 P), (hd.o_198 P), (hd.o_199 P), (hd.o_200 P), (hd.o_201 P), (hd.o_202 P), (hd.o_203 P), (hd.o_204 P), (hd.o_205 P), (hd.o_206 P), (hd.o_207 P), (hd.o_208 P)]), ⟨[], [], [], 0, [], [], Bool.false, #[], [], 0, Bool.false, Bool.false, Bool.false, (0 : Int), [(2000 : Int), (10 : Int), (10 : Int)], Bool.false, 0, Bool.true, [], [], 0, Bool.false⟩⟩)
noncomputable abbrev pP : Program := PySem.Challenge.rw_xm0845_01.row.prog
noncomputable abbrev cP : Code := Code.body (behindTheImports pP) hd.env_41
abbrev tF : List PySem.Frame := [topFrame ⟨0, 0, 0, 0⟩]
abbrev sT (t : BT) (n k : Nat) (os : OsState) : SharedT := { tree := t, n := n, life := {}, gens := Array.mk [], drawn := {}, toks := k, os := os }
noncomputable def slc (a n : Nat) : List Stmt := ((behindTheImports pP).drop a).take n
theorem pre0 : ∀ w : World, (fun os => topGo treeTable pP w 11 (some (.ref 6)) 12 ⟨boot_heap w.params, Array.mk [], boot_drawn, boot_toks, os⟩ (topStub pP)) =
    fun os => some (⟨hd.heap_46 w.params, Array.mk [], {}, 187, os⟩, ⟨denote treeTable cP, cP, ⟨0, 0, 0, 0⟩, tF⟩) := by
  intro w
  kernel_rfl
theorem block0 : ∀ w : World, (fun os => segRun treeTable pP w 11 (some (.ref 6)) 1 1 ⟨hd.heap_46 w.params, Array.mk [], {}, 187, os⟩ (blockOf (behindTheImports pP) hd.env_41 cP ⟨0, 0, 0, 0⟩ tF)) =
    fun os => some (Flow.next, (sT (hd.tree_47 w.params) 15 187 os).abs, cP, ⟨0, 0, 0, 0⟩) := by
  intro w
  kernel_rfl
theorem seg_at_0 : ∀ w : World, (fun os => segRunT treeTable pP w 11 (some (.ref 6)) 1 206 (sT (hd.tree_47 w.params) 15 187 os) (piecesOf (slc 0 2) hd.env_41 cP ⟨0, 0, 0, 0⟩ tF)) =
    fun os => some (Flow.next, sT (hd.tree_64 w.params) 28 209 os, cP, ⟨2, 0, 3, 8⟩) := by
  intro w
  rw [PySem.W.Fast.te10110043849684766642, PySem.W.Fast.te14364793385576792824]
  kernel_rfl
theorem seg_at_2 : ∀ w : World, (fun os => segRunT treeTable pP w 11 (some (.ref 6)) 1 214 (sT (hd.tree_64 w.params) 28 209 os) (piecesOf (slc 2 1) hd.env_41 cP ⟨2, 0, 3, 8⟩ tF)) =
    fun os => some (Flow.next, sT (hd.tree_79 w.params) 40 225 os, cP, ⟨4, 0, 5, 8⟩) := by
  intro w
  rw [PySem.W.Fast.te10110043849684766642, PySem.W.Fast.te14364793385576792824]
  kernel_rfl
theorem seg_at_3 : ∀ w : World, (fun os => segRunT treeTable pP w 11 (some (.ref 6)) 1 228 (sT (hd.tree_79 w.params) 40 225 os) (piecesOf (slc 3 1) hd.env_41 cP ⟨4, 0, 5, 8⟩ tF)) =
    fun os => some (Flow.next, sT (hd.tree_94 w.params) 52 241 os, cP, ⟨6, 0, 7, 8⟩) := by
  intro w
  rw [PySem.W.Fast.te10110043849684766642, PySem.W.Fast.te14364793385576792824]
  kernel_rfl
theorem seg_at_4 : ∀ w : World, (fun os => segRunT treeTable pP w 11 (some (.ref 6)) 1 242 (sT (hd.tree_94 w.params) 52 241 os) (piecesOf (slc 4 1) hd.env_41 cP ⟨6, 0, 7, 8⟩ tF)) =
    fun os => some (Flow.next, sT (hd.tree_109 w.params) 64 257 os, cP, ⟨8, 0, 9, 8⟩) := by
  intro w
  rw [PySem.W.Fast.te10110043849684766642, PySem.W.Fast.te14364793385576792824]
  kernel_rfl
theorem seg_at_5 : ∀ w : World, (fun os => segRunT treeTable pP w 11 (some (.ref 6)) 1 372 (sT (hd.tree_109 w.params) 64 257 os) (piecesOf (slc 5 12) hd.env_41 cP ⟨8, 0, 9, 8⟩ tF)) =
    fun os => some (Flow.next, sT (hd.tree_138 w.params) 90 310 os, cP, ⟨41, 0, 41, 4⟩) := by
  intro w
  rw [PySem.W.Fast.te10110043849684766642, PySem.W.Fast.te14364793385576792824]
  kernel_rfl
theorem seg_at_17 : ∀ w : World, (fun os => segRunT treeTable pP w 11 (some (.ref 6)) 1 401 (sT (hd.tree_138 w.params) 90 310 os) (piecesOf (slc 17 5) hd.env_41 cP ⟨41, 0, 41, 4⟩ tF)) =
    fun os => some (Flow.next, sT (hd.tree_194 w.params) 144 398 os, cP, ⟨94, 0, 101, 72⟩) := by
  intro w
  rw [PySem.W.Fast.te10110043849684766642, PySem.W.Fast.te14364793385576792824]
  kernel_rfl
theorem seg_at_22 : ∀ w : World, (fun os => segRunT treeTable pP w 11 (some (.ref 6)) 1 63 (sT (hd.tree_194 w.params) 144 398 os) (piecesOf (slc 22 2) hd.env_41 cP ⟨94, 0, 101, 72⟩ tF)) =
    fun os => some (Flow.next, sT (hd.tree_208 w.params) 156 418 os, cP, ⟨113, 0, 159, 68⟩) := by
  intro w
  rw [PySem.W.Fast.te10110043849684766642, PySem.W.Fast.te14364793385576792824]
  kernel_rfl
theorem fin0 : ∀ w : World, (fun os => topRun treeTable pP w 11 (some (.ref 6)) 2 (sT (hd.tree_208 w.params) 156 418 os).abs ⟨doneF Flow.next, cP, ⟨113, 0, 159, 68⟩, tF⟩) =
    fun os => some ⟨hd.heap_209 w.params, Array.mk [], {}, 418, os⟩ := by
  intro w
  kernel_rfl
theorem split0 : behindTheImports pP = slc 0 2 ++ (slc 2 1 ++ (slc 3 1 ++ (slc 4 1 ++ (slc 5 12 ++ (slc 17 5 ++ (slc 22 2 ++ [])))))) := by kernel_rfl
theorem run_top : ∀ (w : World) (os : OsState), topRun treeTable pP w 11 (some (.ref 6)) (12 + (1 + (206 + (214 + (228 + (242 + (372 + (401 + (63 + 2))))))))) ⟨boot_heap w.params, Array.mk [], boot_drawn, boot_toks, os⟩ (topStub pP) =
    some ⟨hd.heap_209 w.params, Array.mk [], {}, 418, os⟩ := fun w os =>
  go_top (congrFun (pre0 w) os) (piece_block (congrFun (block0 w) os) (split0.symm ▸ (piece_app (segRun_of (congrFun (seg_at_0 w) os)) (piece_app (segRun_of (congrFun (seg_at_2 w) os)) (piece_app (segRun_of (congrFun (seg_at_3 w) os)) (piece_app (segRun_of (congrFun (seg_at_4 w) os)) (piece_app (segRun_of (congrFun (seg_at_5 w) os)) (piece_app (segRun_of (congrFun (seg_at_17 w) os)) (piece_app (segRun_of (congrFun (seg_at_22 w) os)) (congrFun (fin0 w) os))))))))))
theorem size0 : ∀ w : World, ((boot_heap w.params).isNs mainGlobals && (Array.mk [] : Array GenState).size == 0, (boot_heap w.params).objs.size, (boot_heap w.params).nsMap mainGlobals "__annotations__") = (true, 11, some (.ref 6)) := by
  intro w
  kernel_rfl
noncomputable abbrev kH : Hook := kHook hd.heap_39 [2, 3, 6, 15, 22, 23, 24, 25, 28, 35, 36, 37, 40, 47, 48, 49, 52, 59, 60, 61, 64, 71, 72, 73, 76, 78, 79, 81, 82, 83, 85, 86, 88, 89, 97, 99, 100, 102, 103, 104, 106, 107, 109, 110, 111, 113, 114, 116, 117, 118, 119, 120, 121, 122, 125, 127, 128, 130, 131, 132, 134, 135, 137, 138, 139, 142, 143, 144, 146, 147, 149, 150, 151, 154, 155] (fun _ => by kernel_rfl)
noncomputable abbrev xtH (s : Shared) : Bool := xlAt hd.view_39 [] s && recOk (RowW.records PySem.Challenge.rw_xm0845_01.row.toRowW) s
abbrev sF (h : Heap) (os : OsState) : Shared := ⟨h, Array.mk [], {}, 418, os⟩
theorem look_a : ∀ w : World, (fun os => (staticsOk (importedModules pP.main.body) (boot_heap w.params) (hd.heap_209 w.params) && namesBound pP (hd.heap_209 w.params) && gensDone (sF (hd.heap_209 w.params) os) && laidKept (boot_heap w.params) (hd.heap_209 w.params))) = fun _ => true := by
  intro w
  kernel_rfl
noncomputable abbrev seenF (w : World) (os : OsState) := openSeen hd.view_39 [] (importedModules pP.main.body) xtH true (sF (hd.heap_209 w.params) os)
theorem look_b1 : ∀ w : World, (fun os => (seenF w os).1) = fun _ => (openGood hd.view_39 []).1 := by
  intro w
  dsimp only [seenF, openSeen, openGood]
  kernel_rfl
theorem look_b2 : ∀ w : World, (fun os => (seenF w os).2.1) = fun _ => (openGood hd.view_39 []).2.1 := by
  intro w
  dsimp only [seenF, openSeen, openGood]
  kernel_rfl
theorem look_b3 : ∀ w : World, (fun os => (seenF w os).2.2.1) = fun _ => (openGood hd.view_39 []).2.2.1 := by
  intro w
  dsimp only [seenF, openSeen, openGood]
  kernel_rfl
theorem look_b4 : ∀ w : World, (fun os => (seenF w os).2.2.2.1) = fun _ => (openGood hd.view_39 []).2.2.2.1 := by
  intro w
  dsimp only [seenF, openSeen, openGood]
  kernel_rfl
theorem look_b5 : ∀ w : World, (fun os => (seenF w os).2.2.2.2.1) = fun _ => (openGood hd.view_39 []).2.2.2.2.1 := by
  intro w
  dsimp only [seenF, openSeen, openGood]
  kernel_rfl
theorem look_b6 : ∀ w : World, (fun os => (seenF w os).2.2.2.2.2.1) = fun _ => (openGood hd.view_39 []).2.2.2.2.2.1 := by
  intro w
  dsimp only [seenF, openSeen, openGood]
  kernel_rfl
theorem look_b7 : ∀ w : World, (fun os => (seenF w os).2.2.2.2.2.2.1) = fun _ => (openGood hd.view_39 []).2.2.2.2.2.2.1 := by
  intro w
  dsimp only [seenF, openSeen, openGood]
  kernel_rfl
theorem look_b8 : ∀ w : World, (fun os => (seenF w os).2.2.2.2.2.2.2.1) = fun _ => (openGood hd.view_39 []).2.2.2.2.2.2.2.1 := by
  intro w
  dsimp only [seenF, openSeen, openGood]
  kernel_rfl
theorem look_b9 : ∀ w : World, (fun os => (seenF w os).2.2.2.2.2.2.2.2) = fun _ => (openGood hd.view_39 []).2.2.2.2.2.2.2.2 := by
  intro w
  dsimp only [seenF, openSeen, openGood]
  kernel_rfl
theorem look_c : ∀ w : World, (fun os => kH.obs (sF (hd.heap_209 w.params) os)) = fun _ => kH.val w := by
  intro w
  kernel_rfl
theorem look_b (w : World) (os : OsState) : seenF w os = openGood hd.view_39 [] := Prod.ext (congrFun (look_b1 w) os) (Prod.ext (congrFun (look_b2 w) os) (Prod.ext (congrFun (look_b3 w) os) (Prod.ext (congrFun (look_b4 w) os) (Prod.ext (congrFun (look_b5 w) os) (Prod.ext (congrFun (look_b6 w) os) (Prod.ext (congrFun (look_b7 w) os) (Prod.ext (congrFun (look_b8 w) os) ((congrFun (look_b9 w) os)))))))))
theorem left_top : LeftO pP hd.view_39 [] xtH kH.obs kH.val 3564 true :=
  LeftO.of_pieces (boot_open (by kernel_rfl) (by decide) (fun s => by kernel_rfl)) size0 run_top (by decide) fun w => funext fun os => Prod.ext (congrFun (look_a w) os) (Prod.ext (look_b w os) (congrFun (look_c w) os))
theorem said0 : OpenLaw.wellSaid PySem.Challenge.rw_xm0845_01 = true := by
  unfold OpenLaw.wellSaid
  repeat' (with_reducible refine look_both ?_ ?_)
  all_goals try unfold OpenRow.wellSaid
  all_goals repeat' (with_reducible refine look_both ?_ ?_)
  all_goals try unfold OpenRow.partSaid
  all_goals repeat' (with_reducible refine look_both ?_ ?_)
  all_goals try unfold looksOpen
  all_goals repeat' (with_reducible refine look_both ?_ ?_)
  all_goals decide +kernel
def recOf {q : Program} {n : Str} {d : DefRec} {kwd : List (Str × PySem.Expr)} (_ : defOf q n = some (d, kwd)) : DefRec := d
/-- the law's def -/
noncomputable abbrev lawRec : DefRec := recOf (by rfl : defOf hd.view_39 (Str.ofString "law") = some (_, _))
noncomputable abbrev pr : Program := PySem.Challenge.pw_xm0845_01
theorem fill_it : PySem.Challenge.rw_xm0845_01 = PySem.Challenge.rw_xm0845_01 ∧ hd.heap_39 = hd.heap_39 := by
  k_fill
  exact ⟨rfl, rfl⟩
local macro_rules | `(tactic| walk_at "binaryOp LShift int int") => `(tactic| k_extra "binaryOp LShift int int")
local macro_rules | `(tactic| walk_at "binaryOp RShift int int") => `(tactic| k_extra "binaryOp RShift int int")
local macro_rules | `(tactic| walk_at "binaryOp BitOr int int") => `(tactic| k_extra "binaryOp BitOr int int")
local macro_rules | `(tactic| walk_at "binaryOp BitAnd int int") => `(tactic| k_extra "binaryOp BitAnd int int")
local macro_rules | `(tactic| walk_at "binaryOp BitXor int int") => `(tactic| k_extra "binaryOp BitXor int int")
local macro_rules | `(tactic| walk_at "subscriptTail") => `(tactic| k_extra "subscriptTail")
local macro_rules | `(tactic| walk_at "call ref") => `(tactic| k_extra "call ref")
local macro_rules | `(tactic| k_mem) => `(tactic| k_extra "own k_mem")
local macro_rules | `(tactic| walk_at "call builtin:len") => `(tactic| k_extra "call builtin:len")
local macro_rules | `(tactic| walk_at "subscriptTail Name Slice ref ref") => `(tactic| k_extra "subscriptTail Name Slice ref ref")
local macro_rules | `(tactic| walk_at "call type:bytes") => `(tactic| k_extra "call type:bytes")
local macro_rules | `(tactic| walk_at "subscriptTail Name Slice bytes ref") => `(tactic| k_extra "subscriptTail Name Slice bytes ref")
local macro_rules | `(tactic| k_all) => `(tactic| k_extra "own k_all")
local macro_rules | `(tactic| walk_at "exec For Name Call cons nil") => `(tactic| k_extra "exec For Name Call cons nil")
local macro_rules | `(tactic| walk_at "exec For Name Name cons nil") => `(tactic| k_extra "exec For Name Name cons nil")
local macro_rules | `(tactic| walk_at "eval ListComp") => `(tactic| k_extra "eval ListComp")
local macro_rules | `(tactic| walk_at "exec Assign cons ListComp") => `(tactic| k_extra "exec Assign cons ListComp")
local macro_rules | `(tactic| walk_at "call builtin:list.extend") => `(tactic| k_extra "call builtin:list.extend")
local macro_rules | `(tactic| walk_at "call builtin:sorted") => `(tactic| k_extra "call builtin:sorted")
local macro_rules | `(tactic| walk_at "setItem ref int") => `(tactic| k_extra "setItem ref int")
local macro_rules | `(tactic| walk_at "getMethod ref") => `(tactic| k_extra "getMethod ref")
local macro_rules | `(tactic| walk_at "call builtin:list.append") => `(tactic| k_extra "call builtin:list.append")
local macro_rules | `(tactic| walk_at "compareOp NotEq ref ref") => `(tactic| k_extra "compareOp NotEq ref ref")
local macro_rules | `(tactic| walk_at "binaryOp Add ref ref") => `(tactic| k_extra "binaryOp Add ref ref")
-- own lines of the walk
theorem words_1 : True := by
  (k_with "binaryOp LShift int int" => ((with_reducible refine lshift_int_small ?_ ?_ ?_ ?_); omega; omega; omega; (try dsimp only)))
  (k_with "binaryOp RShift int int" => ((with_reducible refine rshift_int ?_ ?_); omega; (try dsimp only)))
  (k_with "binaryOp BitOr int int" => ((with_reducible refine or_int ?_); (try dsimp only)))
  (k_with "binaryOp BitAnd int int" => ((with_reducible refine and_int ?_); (try dsimp only)))
  (k_with "binaryOp BitXor int int" => ((with_reducible refine xor_int ?_); (try dsimp only)))
  (k_with "m one" => first | (k_unfold; (try dsimp only)) | (k_end; wrow_close) | (walk1; first | (with_reducible show wpAny _ _ (subscriptTail _ (PySem.Expr.Slice _ _ _ _) _ _) _ _ _) | (try dsimp only [List.nil_append, List.cons_append])) | (dsimp only; walk1) | (leave1; walk_say "STEP leave1"; try dsimp only))
  (k_with "m no while" => fail_if_success (with_reducible show wpAny _ _ (exec (Stmt.While _ _ _ _) _) _ _ _))
  (k_with "m no loop" => fail_if_success (with_reducible show wpAny _ _ (pyIter _) (fun it s₂ => LoopAtV _ _ _ _ _ _ _ _ _ it s₂) _ _))
  (k_with "m no comp" => fail_if_success (with_reducible show LCg.CompSrc _ _ _ _ _ _ _ _ _ _ _ _ _ _))
  (k_with "m steps 1" => (k_extra "m no while"; k_extra "m no loop"; k_extra "m no comp"; k_extra "m one"))
  (k_with "m steps" => repeat' (k_extra "m steps 1"))
  (k_with "subscriptTail" => (k_here; (with_reducible show wpAny _ _ (subscriptTail (PySem.Expr.Tuple _ _ _) _ (Value.ref _) (Value.int _ _)) _ _ _); k_dflt (refine item_anyT (by exact News.isTup (by k_asm) (by k_mem)) (by l_ints) (by first | omega | exact Int.fmod_nonneg_of_pos _ (by decide) | l_idx) (by first | omega | (simp only [List.length_cons, List.length_nil]; omega) | exact Int.lt_of_lt_of_le (Int.fmod_lt_of_pos _ (by decide)) (by decide) | l_idx) (by first | omega | exact Int.lt_of_lt_of_le (Int.fmod_lt_of_pos _ (by decide)) (by decide) | l_idx) ?_; k_whole); intro _))
  trivial
/-- the contract of a call of the text's def at f, in any frame: what it gives back; nothing else is seen -/
noncomputable def Pure1 (w : World) (mean : ExcName → Option Value) (mg mb : Str → Option Value) (led : List (Addr × Obj)) (D : Nat) (f : Addr) (vs : List Value) (R : Tok → Value) : Prop :=
  ∀ (dp un : Nat) (gd : Option (List Code)) (cn : Str) (cs : Scope) (a : Addr) (ccd : Value) (cl : List (Str × Addr)) (outer : List Env) (A₀ : Around) (base h₀ : Heap) (L : Addr) (m : Str → Option Value) (s : Shared) (Q E : Value → Shared → Prop),
    Below A₀ base outer h₀ → Fr h₀ L s.heap m → (hd.heap_39 w.params).In h₀ → News h₀ L s.heap led → Top hd.view_39 [] mean mg mb h₀ → cs.kind = .function →
    dp + D < recursionLimit → un + 20 * D < cLine →
    (∀ t h' tk', Fr h₀ L h' m → News h₀ L h' led → Q (R t) { s with heap := h', toks := tk' }) →
    wpAny (model pr w) (ktrTop dp un gd cn cs L a ccd cl outer) (call (.ref f) vs) Q E s
theorem Pure1.use {w : World} {mean : ExcName → Option Value} {mg mb : Str → Option Value} {led : List (Addr × Obj)} {D : Nat} {f : Addr} {vs : List Value} {R : Tok → Value}
    {dp un : Nat} {gd : Option (List Code)} {cn : Str} {cs : Scope} {a : Addr} {ccd : Value} {cl : List (Str × Addr)} {outer : List Env} {A₀ : Around} {base h₀ : Heap} {L : Addr} {m : Str → Option Value} {s : Shared} {Q E : Value → Shared → Prop}
    (P : Pure1 w mean mg mb led D f vs R) (B : Below A₀ base outer h₀) (F : Fr h₀ L s.heap m) (X : (hd.heap_39 w.params).In h₀) (N : News h₀ L s.heap led) (T : Top hd.view_39 [] mean mg mb h₀) (hk : cs.kind = .function)
    (hd : dp + D < recursionLimit) (hu : un + 20 * D < cLine) (h : ∀ t h' tk', Fr h₀ L h' m → News h₀ L h' led → Q (R t) { s with heap := h', toks := tk' }) :
    wpAny (model pr w) (ktrTop dp un gd cn cs L a ccd cl outer) (call (.ref f) vs) Q E s := P _ _ _ _ _ _ _ _ _ _ _ _ _ _ _ _ _ B F X N T hk hd hu h

/-- the same, the contract behind the facts of the frame -/
theorem Pure1.call {w : World} {mean : ExcName → Option Value} {mg mb : Str → Option Value} {led : List (Addr × Obj)} {D : Nat} {f : Addr} {vs : List Value} {R : Tok → Value}
    {dp un : Nat} {gd : Option (List Code)} {cn : Str} {cs : Scope} {a : Addr} {ccd : Value} {cl : List (Str × Addr)} {outer : List Env} {A₀ : Around} {base h₀ : Heap} {L : Addr} {m : Str → Option Value} {s : Shared} {Q E : Value → Shared → Prop}
    (B : Below A₀ base outer h₀) (F : Fr h₀ L s.heap m) (X : (hd.heap_39 w.params).In h₀) (N : News h₀ L s.heap led) (T : Top hd.view_39 [] mean mg mb h₀) (hk : cs.kind = .function)
    (hd : dp + D < recursionLimit) (hu : un + 20 * D < cLine) (P : Pure1 w mean mg mb led D f vs R) (h : ∀ t h' tk', Fr h₀ L h' m → News h₀ L h' led → Q (R t) { s with heap := h', toks := tk' }) :
    wpAny (model pr w) (ktrTop dp un gd cn cs L a ccd cl outer) (PySem.call (.ref f) vs) Q E s := Pure1.use P B F X N T hk hd hu h
/-- the same, with new objects -/
noncomputable def Spec1 (w : World) (mean : ExcName → Option Value) (mg mb : Str → Option Value) (led : List (Addr × Obj)) (D : Nat) (f : Addr) (vs : List Value) (R : Value → List (Addr × Obj) → Prop) : Prop :=
  ∀ (dp un : Nat) (gd : Option (List Code)) (cn : Str) (cs : Scope) (a : Addr) (ccd : Value) (cl : List (Str × Addr)) (outer : List Env) (A₀ : Around) (base h₀ : Heap) (L : Addr) (m : Str → Option Value) (s : Shared) (Q E : Value → Shared → Prop),
    Below A₀ base outer h₀ → Fr h₀ L s.heap m → (hd.heap_39 w.params).In h₀ → News h₀ L s.heap led → Top hd.view_39 [] mean mg mb h₀ → cs.kind = .function →
    dp + D < recursionLimit → un + 20 * D < cLine →
    (∀ v own h' tk', R v own → Fr h₀ L h' m → News h₀ L h' (own ++ led) → (∀ p ∈ own, ∀ q ∈ led, p.1 ≠ q.1) → Q v { s with heap := h', toks := tk' }) →
    wpAny (model pr w) (ktrTop dp un gd cn cs L a ccd cl outer) (call (.ref f) vs) Q E s

theorem Spec1.use {w : World} {mean : ExcName → Option Value} {mg mb : Str → Option Value} {led : List (Addr × Obj)} {D : Nat} {f : Addr} {vs : List Value} {R : Value → List (Addr × Obj) → Prop}
    {dp un : Nat} {gd : Option (List Code)} {cn : Str} {cs : Scope} {a : Addr} {ccd : Value} {cl : List (Str × Addr)} {outer : List Env} {A₀ : Around} {base h₀ : Heap} {L : Addr} {m : Str → Option Value} {s : Shared} {Q E : Value → Shared → Prop}
    (P : Spec1 w mean mg mb led D f vs R) (B : Below A₀ base outer h₀) (F : Fr h₀ L s.heap m) (X : (hd.heap_39 w.params).In h₀) (N : News h₀ L s.heap led) (T : Top hd.view_39 [] mean mg mb h₀) (hk : cs.kind = .function)
    (hd : dp + D < recursionLimit) (hu : un + 20 * D < cLine) (h : ∀ v own h' tk', R v own → Fr h₀ L h' m → News h₀ L h' (own ++ led) → (∀ p ∈ own, ∀ q ∈ led, p.1 ≠ q.1) → Q v { s with heap := h', toks := tk' }) :
    wpAny (model pr w) (ktrTop dp un gd cn cs L a ccd cl outer) (call (.ref f) vs) Q E s := P _ _ _ _ _ _ _ _ _ _ _ _ _ _ _ _ _ B F X N T hk hd hu h

theorem know_eq {m : Str → Option Value} {xs : List (Str × Value)} (hx : ∀ p ∈ xs, m p.1 = some p.2) : (fun y => (xs.lookup y).or (m y)) = m := by
  have key : ∀ (l : List (Str × Value)) (y : Str) (v : Value), l.lookup y = some v → (y, v) ∈ l := by
    intro l y v
    induction l with
    | nil => intro h; cases h
    | cons p r ih =>
      intro h
      rw [List.lookup_cons] at h
      by_cases hp : y == p.1
      · simp only [hp] at h
        cases h
        exact List.mem_cons.mpr (.inl (Prod.ext (eq_of_beq hp) rfl))
      · simp only [hp] at h
        exact List.mem_cons.mpr (.inr (ih h))
  funext y
  cases h : xs.lookup y with
  | none => rfl
  | some v => exact (hx _ (key _ _ _ h)).symm
theorem knows {h₀ h : Heap} {L : Addr} {m : Str → Option Value} {xs : List (Str × Value)} (F : Fr h₀ L h m) (hx : ∀ p ∈ xs, m p.1 = some p.2) : Fr h₀ L h (fun y => (xs.lookup y).or (m y)) := by
  rw [know_eq hx]; exact F
theorem knowsS {h₀ h : Heap} {L : Addr} {m : Str → Option Value} {xs : List (Str × Value)} {x : Str} {v : Value} (F : Fr h₀ L h (fun y => if y = x then some v else m y)) (hx : ∀ p ∈ xs, m p.1 = some p.2) :
    Fr h₀ L h (fun y => if y = x then some v else (xs.lookup y).or (m y)) := by
  have e : (fun y => if y = x then some v else (xs.lookup y).or (m y)) = fun y => if y = x then some v else m y := by
    funext y
    rw [congrFun (know_eq hx) y]
  rw [e]; exact F
theorem knil {m : Str → Option Value} : ∀ p ∈ ([] : List (Str × Value)), m p.1 = some p.2 := fun _ h => nomatch h
theorem kcons {m : Str → Option Value} {x : Str} {v : Value} {xs : List (Str × Value)} (e : m x = some v) (h : ∀ p ∈ xs, m p.1 = some p.2) : ∀ p ∈ (x, v) :: xs, m p.1 = some p.2 := by
  intro p hp
  rcases List.mem_cons.mp hp with rfl | hp
  · exact e
  · exact h p hp
theorem news_sub {h₀ h : Heap} {L : Addr} {led led' : List (Addr × Obj)} (N : News h₀ L h led) (hs : ∀ p ∈ led', p ∈ led) : News h₀ L h led' := fun p hp => N p (hs p hp)
/-- the name x holds the int v -/
noncomputable def IsI (m : Str → Option Value) (x : Str) (v : Int) : Prop := ∃ t, m x = some (.int v t)
theorem isI {m : Str → Option Value} {x : Str} {v v' : Int} {t : Tok} (h : m x = some (.int v t)) (e : v = v') : IsI m x v' := ⟨t, e ▸ h⟩
theorem end_int {Q : Value → Shared → Prop} {x y : Int} {t : Tok} {s' : Shared} (e : x = y) (h : Q (.int y t) s') : Q (.int x t) s' := e ▸ h
theorem or_low {a b : Int} (k : Nat) (ha : 0 ≤ a) (hk : a < 2 ^ k) (hb : 0 ≤ b) : Builtin.bitOr a (b * 2 ^ k) = a + b * 2 ^ k := by
  have hp := kbt_pos k
  have hbk : 0 ≤ b * 2 ^ k := Int.mul_nonneg hb (Int.le_of_lt hp)
  rw [bitOr_and, bitAnd_pp ha hbk]
  have e1 : (b * 2 ^ k).toNat = 2 ^ k * b.toNat := by
    have : ((2 ^ k * b.toNat : Nat) : Int) = b * 2 ^ k := by
      rw [Int.natCast_mul, kbt_cast, Int.toNat_of_nonneg hb, Int.mul_comm]
    lia
  have h2 : a.toNat < 2 ^ k := by
    have := kbt_cast k
    lia
  have h3 : a.toNat &&& 2 ^ k * b.toNat = 0 := by
    refine Nat.eq_of_testBit_eq fun i => ?_
    rw [Nat.testBit_and, Nat.testBit_two_pow_mul, Nat.zero_testBit]
    by_cases hi : k ≤ i
    · have : a.toNat.testBit i = false := Nat.testBit_lt_two_pow (Nat.lt_of_lt_of_le h2 (Nat.pow_le_pow_right (by decide) hi))
      rw [this]; rfl
    · simp [hi]
  rw [e1, h3]
  lia

noncomputable def word4 (ks : List Int) (i : Nat) : Int := ks.getD i 0 + ks.getD (i + 1) 0 * 256 + ks.getD (i + 2) 0 * 65536 + ks.getD (i + 3) 0 * 16777216
theorem word4_or {a b c d : Int} (ha : 0 ≤ a) (ha' : a < 256) (hb : 0 ≤ b) (hb' : b < 256) (hc : 0 ≤ c) (hc' : c < 256) (hd : 0 ≤ d) (hd' : d < 256) :
    Builtin.bitOr (Builtin.bitOr (Builtin.bitOr a (b * 2 ^ Int.toNat 8)) (c * 2 ^ Int.toNat 16)) (d * 2 ^ Int.toNat 24) = a + b * 256 + c * 65536 + d * 16777216 := by
  have e1 := or_low (a := a) (b := b) 8 ha ha' hb
  have e2 := or_low (a := a + b * 256) (b := c) 16 (by lia) (by lia) hc
  have e3 := or_low (a := a + b * 256 + c * 65536) (b := d) 24 (by lia) (by lia) hd
  have f1 : Int.toNat 8 = 8 := rfl
  have f2 : Int.toNat 16 = 16 := rfl
  have f3 : Int.toNat 24 = 24 := rfl
  rw [f1, f2, f3, e1]
  rw [show (2 : Int) ^ 8 = 256 from by decide]
  rw [e2]
  rw [show (2 : Int) ^ 16 = 65536 from by decide]
  rw [e3]
  rw [show (2 : Int) ^ 24 = 16777216 from by decide]

/-- the hash, by what is left of the octets -/
noncomputable def mulh (h v : Int) : Int := (h + v) * 3332679571 % 4294967296
noncomputable def mix (h u : Int) : Int := Builtin.bitXor h (h / u)
noncomputable def hashR : Int → List Int → Int
  | h, a :: b :: c :: d :: r => hashR (mix (mulh h (a + b * 256 + c * 65536 + d * 16777216)) 65536) r
  | h, [a, b, c] => mix (mulh h (a + b * 256 + c * 65536)) 16777216
  | h, [a, b] => mix (mulh h (a + b * 256)) 16777216
  | h, [a] => mix (mulh h a) 16777216
  | h, [] => h
noncomputable def hash0 (n : Nat) : Int := Builtin.bitXor 3164544308 ((n : Int) * 3332679571 % 4294967296)
noncomputable def hashK (ks : List Int) : Int := hashR (hash0 ks.length) ks

theorem xor_range : ∀ (k : Nat) {x y : Int}, 0 ≤ x → x < 2 ^ k → 0 ≤ y → y < 2 ^ k → 0 ≤ Builtin.bitXor x y ∧ Builtin.bitXor x y < 2 ^ k
  | 0, x, y, hx, hx', hy, hy' => by
    have e1 : x = 0 := by simp only [Int.pow_zero] at hx'; lia
    have e2 : y = 0 := by simp only [Int.pow_zero] at hy'; lia
    subst e1; subst e2
    rw [bitXor_zero]; decide
  | k + 1, x, y, hx, hx', hy, hy' => by
    rw [Int.pow_succ] at *
    have ih := xor_range k (x := x / 2) (y := y / 2) (by lia) (by lia) (by lia) (by lia)
    rw [bitXor_and] at ih ⊢
    rw [kbt_halves x y]
    split <;> lia
theorem mulh_range (h v : Int) : 0 ≤ mulh h v ∧ mulh h v < 4294967296 := by unfold mulh; lia
theorem mix_range {h u : Int} (h0 : 0 ≤ h) (h1 : h < 4294967296) (hu : 0 < u) : 0 ≤ mix h u ∧ mix h u < 4294967296 := by
  have a1 : 0 ≤ h / u := Int.ediv_nonneg h0 (Int.le_of_lt hu)
  have a2 : h / u ≤ h := Int.ediv_le_self _ h0
  have := xor_range 32 (x := h) (y := h / u) h0 h1 a1 (by lia)
  exact this
theorem hash0_range (n : Nat) : 0 ≤ hash0 n ∧ hash0 n < 4294967296 := by
  have := xor_range 32 (x := 3164544308) (y := (n : Int) * 3332679571 % 4294967296) (by decide) (by decide) (by lia) (by lia)
  exact this
theorem hashR_range : ∀ (ks : List Int) (h : Int), 0 ≤ h → h < 4294967296 → 0 ≤ hashR h ks ∧ hashR h ks < 4294967296
  | a :: b :: c :: d :: r, h, _, _ => by
    have m := mulh_range h (a + b * 256 + c * 65536 + d * 16777216)
    have x := mix_range m.1 m.2 (u := 65536) (by decide)
    rw [hashR]
    exact hashR_range r _ x.1 x.2
  | [a, b, c], h, _, _ => by rw [hashR]; have m := mulh_range h (a + b * 256 + c * 65536); exact mix_range m.1 m.2 (by decide)
  | [a, b], h, _, _ => by rw [hashR]; have m := mulh_range h (a + b * 256); exact mix_range m.1 m.2 (by decide)
  | [a], h, _, _ => by rw [hashR]; have m := mulh_range h a; exact mix_range m.1 m.2 (by decide)
  | [], h, h0, h1 => by rw [hashR]; exact ⟨h0, h1⟩
theorem hashK_range (ks : List Int) : 0 ≤ hashK ks ∧ hashK ks < 4294967296 := hashR_range ks _ (hash0_range _).1 (hash0_range _).2

theorem drop4 {ks : List Int} {i : Nat} (h : i + 4 ≤ ks.length) : ks.drop i = ks.getD i 0 :: ks.getD (i + 1) 0 :: ks.getD (i + 2) 0 :: ks.getD (i + 3) 0 :: ks.drop (i + 4) := by
  have g : ∀ j, j < ks.length → ks.drop j = ks.getD j 0 :: ks.drop (j + 1) := by
    intro j hj
    rw [List.drop_eq_getElem_cons hj]
    congr 1
    simp [List.getD_eq_getElem?_getD, hj]
  rw [g i (by lia), g (i + 1) (by lia), g (i + 2) (by lia), g (i + 3) (by lia)]
theorem drop_at {ks : List Int} {j : Nat} (hj : j < ks.length) : ks.drop j = ks.getD j 0 :: ks.drop (j + 1) := by
  rw [List.drop_eq_getElem_cons hj]
  congr 1
  simp [List.getD_eq_getElem?_getD, hj]
theorem hash_turn {ks : List Int} {i : Nat} (h : Int) (hi : i + 4 ≤ ks.length) : hashR h (ks.drop i) = hashR (mix (mulh h (word4 ks i)) 65536) (ks.drop (i + 4)) := by
  rw [drop4 hi, hashR]; rfl
theorem hash_rest3 {ks : List Int} {i : Nat} (h : Int) (hi : i + 3 = ks.length) : hashR h (ks.drop i) = mix (mulh h (ks.getD i 0 + ks.getD (i + 1) 0 * 256 + ks.getD (i + 2) 0 * 65536)) 16777216 := by
  rw [drop_at (by lia), drop_at (j := i + 1) (by lia), drop_at (j := i + 2) (by lia), List.drop_of_length_le (by lia), hashR]
theorem hash_rest2 {ks : List Int} {i : Nat} (h : Int) (hi : i + 2 = ks.length) : hashR h (ks.drop i) = mix (mulh h (ks.getD i 0 + ks.getD (i + 1) 0 * 256)) 16777216 := by
  rw [drop_at (by lia), drop_at (j := i + 1) (by lia), List.drop_of_length_le (by lia), hashR]
theorem hash_rest1 {ks : List Int} {i : Nat} (h : Int) (hi : i + 1 = ks.length) : hashR h (ks.drop i) = mix (mulh h (ks.getD i 0)) 16777216 := by
  rw [drop_at (by lia), List.drop_of_length_le (by lia), hashR]
theorem hash_rest0 {ks : List Int} {i : Nat} (h : Int) (hi : i = ks.length) : hashR h (ks.drop i) = h := by
  rw [List.drop_of_length_le (by lia), hashR]
theorem bitAnd_W (x : Int) : Builtin.bitAnd x 4294967295 = x % 4294967296 := bitAnd_m32 x
theorem mulh_and {x h v : Int} (e : x = h + v) : Builtin.bitAnd (x * 3332679571) 4294967295 = mulh h v := by subst e; exact bitAnd_m32 _
theorem mix_shr16 {h : Int} : Builtin.bitXor h (h.fdiv (2 ^ Int.toNat 16)) = mix h 65536 := by
  rw [show (2 : Int) ^ Int.toNat 16 = 65536 from by decide, Int.fdiv_eq_ediv_of_nonneg _ (by decide)]; rfl
theorem mix_shr24 {h : Int} : Builtin.bitXor h (h.fdiv (2 ^ Int.toNat 24)) = mix h 16777216 := by
  rw [show (2 : Int) ^ Int.toNat 24 = 16777216 from by decide, Int.fdiv_eq_ediv_of_nonneg _ (by decide)]; rfl
theorem p8 : (2 : Int) ^ Int.toNat 8 = 256 := by decide
theorem p16 : (2 : Int) ^ Int.toNat 16 = 65536 := by decide
/-- the sum that a part makes -/
noncomputable def chunkS (cs : List Int) : Int := ((List.range cs.length).map fun q => cs.getD q 0 * 256 ^ q).sum
theorem chunk_step (h : Int) : ∀ rest : List Int, rest ≠ [] → hashR h rest = hashR (mix (mulh h (chunkS (rest.take 4))) (if (rest.take 4).length = 4 then 65536 else 16777216)) (rest.drop 4)
  | [], hn => absurd rfl hn
  | [a], _ => by simp [chunkS, List.range_succ, hashR, Int.add_assoc]
  | [a, b], _ => by simp [chunkS, List.range_succ, hashR, Int.add_assoc]
  | [a, b, c], _ => by simp [chunkS, List.range_succ, hashR, Int.add_assoc]
  | a :: b :: c :: d :: r, _ => by simp [chunkS, List.range_succ, hashR, Int.add_assoc]
theorem mulh_fmod (h v : Int) : ((h + v) * 3332679571).fmod 4294967296 = mulh h v := by rw [Int.fmod_eq_emod_of_nonneg _ (by decide)]; rfl
theorem mix_fdiv16 (h : Int) : Builtin.bitXor h (h.fdiv 65536) = mix h 65536 := by rw [Int.fdiv_eq_ediv_of_nonneg _ (by decide)]; rfl
theorem mix_fdiv24 (h : Int) : Builtin.bitXor h (h.fdiv 16777216) = mix h 16777216 := by rw [Int.fdiv_eq_ediv_of_nonneg _ (by decide)]; rfl
theorem hash0_fmod (n : Nat) : Builtin.bitXor 3164544308 (((n : Int) * 3332679571).fmod 4294967296) = hash0 n := by rw [Int.fmod_eq_emod_of_nonneg _ (by decide)]; rfl
/-- the turned hash, a spot, a key's spots -/
noncomputable def turnK (h : Int) : Int := h / 131072 + h % 131072 * 32768
noncomputable def spotK (h wd : Int) (i : Nat) : Int := (h + (i : Int) * turnK h) % 4294967296 % wd
noncomputable def spotsK (ks : List Int) (p : Nat) (wd : Int) : List Int := (List.range p).map (spotK (hashK ks) wd)
theorem spot_fmod {h wd : Int} (i : Nat) (hw : 0 < wd) : ((h + (i : Int) * (h.fdiv 131072 + h.fmod 131072 * 32768)).fmod 4294967296).fmod wd = spotK h wd i := by
  rw [Int.fmod_eq_emod_of_nonneg _ (Int.le_of_lt hw), Int.fmod_eq_emod_of_nonneg _ (by decide), Int.fmod_eq_emod_of_nonneg _ (by decide), Int.fdiv_eq_ediv_of_nonneg _ (by decide)]
  rfl
theorem spotsK_len (ks : List Int) (p : Nat) (wd : Int) : (spotsK ks p wd).length = p := by simp [spotsK]
theorem spotsK_in {ks : List Int} {p : Nat} {wd x : Int} (hw : 0 < wd) (h : x ∈ spotsK ks p wd) : 0 ≤ x ∧ x < wd := by
  unfold spotsK at h
  obtain ⟨i, _, rfl⟩ := List.mem_map.mp h
  exact ⟨Int.emod_nonneg _ (by lia), Int.emod_lt_of_pos _ hw⟩
theorem fdiv8 (x : Int) : Int.fdiv x 8 = x / 8 := Int.fdiv_eq_ediv_of_nonneg x (by decide)
theorem fmod8 (x : Int) : Int.fmod x 8 = x % 8 := Int.fmod_eq_emod_of_nonneg x (by decide)
/-- an octet by its eight lamps -/
noncomputable def oct8 (f : Nat → Bool) : Int := (bif f 0 then 1 else 0) + (bif f 1 then 2 else 0) + (bif f 2 then 4 else 0) + (bif f 3 then 8 else 0) + (bif f 4 then 16 else 0) + (bif f 5 then 32 else 0) + (bif f 6 then 64 else 0) + (bif f 7 then 128 else 0)
theorem oct8_range (f : Nat → Bool) : 0 ≤ oct8 f ∧ oct8 f < 256 := by
  unfold oct8
  generalize f 0 = a; generalize f 1 = b; generalize f 2 = c; generalize f 3 = d; generalize f 4 = e; generalize f 5 = g; generalize f 6 = h; generalize f 7 = i
  revert a b c d e g h i
  decide +kernel
theorem oct8_congr {f g : Nat → Bool} (h : ∀ b, b < 8 → f b = g b) : oct8 f = oct8 g := by
  unfold oct8
  rw [h 0 (by decide), h 1 (by decide), h 2 (by decide), h 3 (by decide), h 4 (by decide), h 5 (by decide), h 6 (by decide), h 7 (by decide)]
theorem oct8_all (f : Nat → Bool) (b : Nat) (hb : b < 8) :
    (f b = false → oct8 f + 2 ^ b = oct8 (fun i => f i || i == b)) ∧ Builtin.bitOr (oct8 f) (1 * 2 ^ b) = oct8 (fun i => f i || i == b) ∧
    (Builtin.bitAnd (oct8 f) (1 * 2 ^ b) = if f b then 2 ^ b else 0) ∧ (oct8 f / 2 ^ b % 2 = if f b then 1 else 0) ∧ (f b = true → oct8 f - 2 ^ b = oct8 (fun i => f i && i != b)) := by
  rcases (by lia : b = 0 ∨ b = 1 ∨ b = 2 ∨ b = 3 ∨ b = 4 ∨ b = 5 ∨ b = 6 ∨ b = 7) with rfl | rfl | rfl | rfl | rfl | rfl | rfl | rfl <;>
  · unfold oct8
    dsimp only
    generalize f 0 = a; generalize f 1 = b; generalize f 2 = c; generalize f 3 = d; generalize f 4 = e; generalize f 5 = g; generalize f 6 = h; generalize f 7 = i
    clear hb f
    revert a b c d e g h i
    decide +kernel
/-- the octet number o of the filter that bears the places P -/
noncomputable def octI (P : List Int) (o : Nat) : Int := oct8 fun b => decide (8 * (o : Int) + (b : Int) ∈ P)
noncomputable def litK (P : List Int) (n : Nat) : List Int := (List.range n).map (octI P)
theorem octI_range (P : List Int) (o : Nat) : 0 ≤ octI P o ∧ octI P o < 256 := oct8_range _
theorem octI_congr {P P' : List Int} (h : ∀ x, x ∈ P ↔ x ∈ P') (o : Nat) : octI P o = octI P' o := oct8_congr fun b _ => decide_eq_decide.mpr (h _)
theorem litK_congr {P P' : List Int} (h : ∀ x, x ∈ P ↔ x ∈ P') (n : Nat) : litK P n = litK P' n := List.map_congr_left fun o _ => octI_congr h o
theorem litK_length (P : List Int) (n : Nat) : (litK P n).length = n := by unfold litK; rw [List.length_map, List.length_range]
theorem litK_getD (P : List Int) {n o : Nat} (h : o < n) : (litK P n).getD o 0 = octI P o := by
  unfold litK
  simp [List.getD_eq_getElem?_getD, h]
theorem litK_in (P : List Int) (n : Nat) : ∀ k ∈ litK P n, 0 ≤ k ∧ k < 256 := by
  intro k hk
  obtain ⟨o, _, rfl⟩ := List.mem_map.mp hk
  exact octI_range P o
theorem at_place {x : Int} (h0 : 0 ≤ x) : 8 * (((x / 8).toNat : Nat) : Int) + (((x % 8).toNat : Nat) : Int) = x ∧ (x % 8).toNat < 8 := by omega
theorem litK_set {P P' : List Int} {n : Nat} {x v : Int} (h0 : 0 ≤ x) (hn : x < 8 * (n : Int)) (hP : ∀ y, y / 8 ≠ x / 8 → (y ∈ P ↔ y ∈ P')) (hv : v = octI P' (x / 8).toNat) : (litK P n).set (x / 8).toNat v = litK P' n := by
  refine List.ext_getElem? fun k => ?_
  rw [List.getElem?_set]
  unfold litK
  by_cases hk : (x / 8).toNat = k
  · subst hk
    rw [if_pos rfl, List.length_map, List.length_range, if_pos (by lia), List.getElem?_map, List.getElem?_range (by lia)]
    rw [hv]; rfl
  · rw [if_neg hk, List.getElem?_map, List.getElem?_map]
    by_cases hkn : k < n
    · rw [List.getElem?_range hkn]
      show some _ = some _
      congr 1
      refine oct8_congr fun b hb => decide_eq_decide.mpr (hP _ ?_)
      lia
    · rw [List.getElem?_eq_none (by rw [List.length_range]; lia)]
      rfl
theorem octI_lamp (P : List Int) {x : Int} (h0 : 0 ≤ x) : decide (8 * (((x / 8).toNat : Nat) : Int) + (((x % 8).toNat : Nat) : Int) ∈ P) = decide (x ∈ P) := by rw [(at_place h0).1]
theorem octI_add {P : List Int} {x : Int} (h0 : 0 ≤ x) (hx : x ∉ P) : octI P (x / 8).toNat + 2 ^ (x % 8).toNat = octI (P ++ [x]) (x / 8).toNat := by
  have ⟨e, hb⟩ := at_place h0
  refine ((oct8_all _ _ hb).1 (by rw [octI_lamp P h0]; exact decide_eq_false hx)).trans (oct8_congr fun b hb' => ?_)
  rw [Bool.eq_iff_iff]
  simp only [Bool.or_eq_true, decide_eq_true_eq, beq_iff_eq, List.mem_append, List.mem_singleton]
  refine or_congr Iff.rfl ?_
  lia
theorem octI_or {P : List Int} {x : Int} (h0 : 0 ≤ x) : Builtin.bitOr (octI P (x / 8).toNat) (1 * 2 ^ (x % 8).toNat) = octI (P ++ [x]) (x / 8).toNat := by
  have ⟨e, hb⟩ := at_place h0
  refine (oct8_all _ _ hb).2.1.trans (oct8_congr fun b hb' => ?_)
  rw [Bool.eq_iff_iff]
  simp only [Bool.or_eq_true, decide_eq_true_eq, beq_iff_eq, List.mem_append, List.mem_singleton]
  refine or_congr Iff.rfl ?_
  omega
theorem octI_and {P : List Int} {x : Int} (h0 : 0 ≤ x) : Builtin.bitAnd (octI P (x / 8).toNat) (1 * 2 ^ (x % 8).toNat) = if x ∈ P then 2 ^ (x % 8).toNat else 0 := by
  have ⟨e, hb⟩ := at_place h0
  refine (oct8_all _ _ hb).2.2.1.trans ?_
  rw [octI_lamp P h0]
  simp only [decide_eq_true_eq]
theorem octI_dark {P : List Int} {x : Int} (h0 : 0 ≤ x) : octI P (x / 8).toNat / 2 ^ (x % 8).toNat % 2 = if x ∈ P then 1 else 0 := by
  have ⟨e, hb⟩ := at_place h0
  refine (oct8_all _ _ hb).2.2.2.1.trans ?_
  rw [octI_lamp P h0]
  simp only [decide_eq_true_eq]
theorem octI_sub {P : List Int} {x : Int} (h0 : 0 ≤ x) (hx : x ∈ P) : octI P (x / 8).toNat - 2 ^ (x % 8).toNat = octI (P.filter (· ≠ x)) (x / 8).toNat := by
  have ⟨e, hb⟩ := at_place h0
  refine ((oct8_all _ _ hb).2.2.2.2 (by rw [octI_lamp P h0]; exact decide_eq_true hx)).trans (oct8_congr fun b hb' => ?_)
  rw [Bool.eq_iff_iff]
  simp only [Bool.and_eq_true, decide_eq_true_eq, bne_iff_ne, ne_eq, List.mem_filter]
  refine and_congr Iff.rfl ?_
  lia
theorem litK_add {P : List Int} {n : Nat} {x : Int} (h0 : 0 ≤ x) (hn : x < 8 * (n : Int)) (hx : x ∉ P) : (litK P n).set (x / 8).toNat ((litK P n).getD (x / 8).toNat 0 + 2 ^ (x % 8).toNat) = litK (P ++ [x]) n := by
  rw [litK_getD P (by lia)]
  refine litK_set h0 hn (fun y hy => ?_) (octI_add h0 hx)
  rw [List.mem_append, List.mem_singleton]
  exact ⟨.inl, fun h => h.resolve_right fun e => hy (by rw [e])⟩
theorem litK_or {P : List Int} {n : Nat} {x : Int} (h0 : 0 ≤ x) (hn : x < 8 * (n : Int)) : (litK P n).set (x / 8).toNat (Builtin.bitOr ((litK P n).getD (x / 8).toNat 0) (1 * 2 ^ (x % 8).toNat)) = litK (P ++ [x]) n := by
  rw [litK_getD P (by lia)]
  refine litK_set h0 hn (fun y hy => ?_) (octI_or h0)
  rw [List.mem_append, List.mem_singleton]
  exact ⟨.inl, fun h => h.resolve_right fun e => hy (by rw [e])⟩
theorem litK_same {P : List Int} {n : Nat} {x : Int} (hx : x ∈ P) : litK P n = litK (P ++ [x]) n := by
  refine litK_congr (fun y => ?_) n
  rw [List.mem_append, List.mem_singleton]
  exact ⟨.inl, fun h => h.elim id fun e => e ▸ hx⟩
theorem litK_sub {P : List Int} {n : Nat} {x : Int} (h0 : 0 ≤ x) (hn : x < 8 * (n : Int)) (hx : x ∈ P) : (litK P n).set (x / 8).toNat ((litK P n).getD (x / 8).toNat 0 - 2 ^ (x % 8).toNat) = litK (P.filter (· ≠ x)) n := by
  rw [litK_getD P (by omega)]
  refine litK_set h0 hn (fun y hy => ?_) (octI_sub h0 hx)
  rw [List.mem_filter]
  exact ⟨fun h => ⟨h, by simpa using fun e => hy (by rw [e])⟩, fun h => h.1⟩
theorem litK_nil (n : Nat) : litK [] n = (List.replicate n [0]).flatten := by
  induction n with
  | zero => rfl
  | succ n ih =>
    have e : litK [] (n + 1) = litK [] n ++ [0] := by
      unfold litK
      rw [List.range_succ, List.map_append]
      rfl
    rw [e, ih, List.replicate_succ', List.flatten_append]
    rfl
noncomputable def filterK (P : List Int) (n : Nat) (p : Int) : List Int := litK P n ++ [p]
/-- the last of what was passed, or what stands before all -/
noncomputable def lastI (l : List Int) : Int := l.getLast?.getD (0 - 1)
theorem mem_of_last {l : List Int} {x : Int} (h : x = lastI l) (h0 : 0 ≤ x) : x ∈ l := by
  unfold lastI at h
  cases hl : l.getLast? with
  | none => rw [hl] at h; simp only [Option.getD_none] at h; lia
  | some y =>
    rw [hl] at h
    simp only [Option.getD_some] at h
    rw [h]
    exact List.mem_of_getLast? hl
theorem not_mem_of_last {l : List Int} {x : Int} (hs : (l ++ [x]).Pairwise (· ≤ ·)) (h : x ≠ lastI l) : x ∉ l := by
  intro hx
  have hne : l ≠ [] := List.ne_nil_of_mem hx
  have hl : lastI l = l.getLast hne := by
    unfold lastI
    rw [List.getLast?_eq_some_getLast hne]; rfl
  have hd : l = l.dropLast ++ [l.getLast hne] := (List.dropLast_concat_getLast hne).symm
  rw [List.pairwise_append] at hs
  have h1 := hs.2.2 _ (List.getLast_mem hne) x (List.mem_singleton.mpr rfl)
  have hs1 := hs.1
  rw [hd, List.pairwise_append] at hs1
  rw [hd, List.mem_append, List.mem_singleton] at hx
  rcases hx with hx | hx
  · have h2 := hs1.2.2 x hx _ (List.mem_singleton.mpr rfl)
    rw [hl] at h
    lia
  · rw [hl] at h
    exact h hx
theorem read_spec {w : World} {mean : ExcName → Option Value} {mg mb : Str → Option Value} {led : List (Addr × Obj)} (b : Array UInt8) (i : Int) (tb ti : Tok)
   (ks : List Int) (hks : KBw.bInts b = ks) (h0 : 0 ≤ i) (hi : i + 4 ≤ ks.length) (hb : ks.length ≤ 1000) :
   Pure1 w mean mg mb led 1 82 [.bytes b tb, .int i ti] (fun t => .int (word4 ks i.toNat) t) := by
  intro dp un gd cn cs a ccd cl outer A₀ base h₀ L m s Q E B F X N T hk hdp hun R
  refine wpAny_call ?_
  k_dflt (refine' code_def (binds := [(Str.ofString "data", .bytes b tb), (Str.ofString "at", .int i ti)]) ?k1 ?k2 ?k3 ?k4 ?k5 ?kA ?kF ?kK ?k6 ?k7 ?k8 ?k9 ?kB ?_ ?c2 ?c3 ?c4 ?c5; (case kA => exact rfl); (case kF => exact rfl); (case kK => assumption); (case k1 => k_asm); (case k2 => k_asm); (case k3 => k_asm); (case k4 => k_asm); (case k5 => k_asm); (case k6 => k_is); (case k7 => k_is); (case k8 => ktr_room); (case k9 => exact BindsTo.of_eq rfl); (case c5 => decide); (case kB => exact locs rfl); (case c2 => exact rfl); (case c3 => exact rfl); (case c4 => exact rfl); k_whole; intro g' L' h' FG' F' N' B' X' T'; (try dsimp only); (try k_lift B'); (try k_fold))
  k_extra "m steps"
  have e1 : (i + 1).toNat = i.toNat + 1 := by lia
  have e2 : (i + 2).toNat = i.toNat + 2 := by lia
  have e3 : (i + 3).toNat = i.toNat + 3 := by lia
  refine end_int (y := word4 ks i.toNat) ?_ (R _ _ _ (by assumption) (by assumption))
  unfold word4
  rw [← e1, ← e2, ← e3]
  exact word4_or (by assumption) (by assumption) (by assumption) (by assumption) (by assumption) (by assumption) (by assumption) (by assumption)
theorem words_2 : True := by
  (k_with "call ref" => (k_here; (with_reducible show wpAny _ _ (call (Value.ref 82) _) _ _ _); k_dflt (refine Pure1.call (by k_asm) (by k_asm) (by k_asm) (by k_asm) (by k_asm) (by first | exact rfl | assumption) (by ktr_room) (by ktr_units) (read_spec _ _ _ _ _ (by assumption) (by omega) (by omega) (by omega)) ?_; k_whole); intro t9 h9 tk9 F9 N9; (try dsimp only); (try k_fold)))
  trivial
/-- between the turns of bloom_hash's while -/
noncomputable def HashJ (b : Array UInt8) (tb : Tok) (ks : List Int) (led : List (Addr × Obj)) (n : Nat) (m : Str → Option Value) (news : List (Addr × Obj)) : Prop :=
  news = led ∧ ∃ (i : Nat) (h : Int), i ≤ ks.length ∧ n = ks.length - i ∧ 0 ≤ h ∧ h < 4294967296 ∧ hashR h (ks.drop i) = hashK ks ∧
    IsI m (Str.ofString "h") h ∧ IsI m (Str.ofString "at") i ∧ IsI m (Str.ofString "size") ks.length ∧ m (Str.ofString "data") = some (.bytes b tb)
theorem hash_spec {w : World} {mean : ExcName → Option Value} {mg mb : Str → Option Value} {led : List (Addr × Obj)} (b : Array UInt8) (tb : Tok) (ks : List Int) (hks : KBw.bInts b = ks) (hb : ks.length ≤ 1000) :
   Pure1 w mean mg mb led 2 89 [.bytes b tb] (fun t => .int (hashK ks) t) := by
  intro dp un gd cn cs a ccd cl outer A₀ base h₀ L m s Q E B F X N T hk hdp hun R
  refine wpAny_call ?_
  k_dflt (refine' code_def (binds := [(Str.ofString "data", .bytes b tb)]) ?k1 ?k2 ?k3 ?k4 ?k5 ?kA ?kF ?kK ?k6 ?k7 ?k8 ?k9 ?kB ?_ ?c2 ?c3 ?c4 ?c5; (case kA => exact rfl); (case kF => exact rfl); (case kK => assumption); (case k1 => k_asm); (case k2 => k_asm); (case k3 => k_asm); (case k4 => k_asm); (case k5 => k_asm); (case k6 => k_is); (case k7 => k_is); (case k8 => ktr_room); (case k9 => exact BindsTo.of_eq rfl); (case c5 => decide); (case kB => exact locs rfl); (case c2 => exact rfl); (case c3 => exact rfl); (case c4 => exact rfl); k_whole; intro g' L' h' FG' F' N' B' X' T'; (try dsimp only); (try k_lift B'); (try k_fold))
  k_extra "m steps"
  rename Fr _ _ _ _ => F1
  rename News _ _ _ _ => N1
  refine While_inv (HashJ b tb ks led) (n₀ := ks.length) F1 N1 ?_ ?_
  · exact ⟨rfl, 0, hash0 ks.length, Nat.zero_le _, rfl, (hash0_range _).1, (hash0_range _).2, rfl, isI rfl (by rw [bitAnd_W]; rfl), isI rfl rfl, isI rfl rfl, rfl⟩
  · rintro n m1 news1 h1 tk1 F2 N2 ⟨rfl, i, hh, hi, hn, h0, hW, hR, ⟨th, mh⟩, ⟨ti, ma⟩, ⟨ts, ms⟩, md⟩
    replace F2 := knows F2 (kcons md (kcons ms (kcons ma (kcons mh knil))))
    clear F1 N1
    k_extra "m steps"
    · refine WhileStep.intro (n' := ks.length - (i + 4)) (by assumption) (by assumption) (by lia) ?_
      have hm := mulh_range hh (word4 ks i)
      have hx := mix_range hm.1 hm.2 (u := 65536) (by decide)
      refine ⟨rfl, i + 4, mix (mulh hh (word4 ks i)) 65536, by lia, rfl, hx.1, hx.2, ?_, isI rfl ?_, isI rfl ?_, isI rfl rfl, rfl⟩
      · rw [← hash_turn hh (by lia)]; exact hR
      · rw [Int.toNat_natCast, mulh_and rfl]; exact mix_shr16
      · lia
    · have hi3 : i + 3 = ks.length := by lia
      refine end_int (y := hashK ks) ?_ (R _ _ _ (by assumption) (by assumption))
      rw [← hR, hash_rest3 hh hi3, p8, p16, show (↑i + 2 : Int).toNat = i + 2 from by lia, show (↑i + 1 : Int).toNat = i + 1 from by lia, Int.toNat_natCast, mulh_and (h := hh) (v := ks.getD i 0 + ks.getD (i + 1) 0 * 256 + ks.getD (i + 2) 0 * 65536) (by lia)]
      exact mix_shr24
    · have hi2 : i + 2 = ks.length := by lia
      refine end_int (y := hashK ks) ?_ (R _ _ _ (by assumption) (by assumption))
      rw [← hR, hash_rest2 hh hi2, p8, show (↑i + 1 : Int).toNat = i + 1 from by lia, Int.toNat_natCast, mulh_and (h := hh) (v := ks.getD i 0 + ks.getD (i + 1) 0 * 256) (by lia)]
      exact mix_shr24
    · have hi1 : i + 1 = ks.length := by lia
      refine end_int (y := hashK ks) ?_ (R _ _ _ (by assumption) (by assumption))
      rw [← hR, hash_rest1 hh hi1, Int.toNat_natCast, mulh_and (h := hh) (v := ks.getD i 0) rfl]
      exact mix_shr24
    · have hi0 : i = ks.length := by lia
      refine end_int (y := hashK ks) ?_ (R _ _ _ (by assumption) (by assumption))
      rw [← hR, hash_rest0 hh hi0]
theorem words_3 : True := by
  (k_with "call ref" => (k_here; (with_reducible show wpAny _ _ (call (Value.ref 89) _) _ _ _); k_dflt (refine Pure1.call (by k_asm) (by k_asm) (by k_asm) (by k_asm) (by k_asm) (by first | exact rfl | assumption) (by ktr_room) (by ktr_units) (hash_spec _ _ _ (by assumption) (by omega)) ?_; k_whole); intro t9 h9 tk9 F9 N9; (try dsimp only); (try k_fold)))
  trivial
theorem isl {h₀ h : Heap} {L l : Addr} {led : List (Addr × Obj)} {items : Array Value} {k : Nat} (N : News h₀ L h led) (hm : (l, listOf items k) ∈ led) : h.IsList l items := ⟨_, (N _ hm).1, rfl, k, rfl⟩
section
variable {prog : Program} {w : World} {A : Around} {E : Value → Shared → Prop} {s : Shared} {h₀ : Heap} {L l : Addr} {led : List (Addr × Obj)} {vs : List Value} {k : Nat} {ns : List Int} {Q : Value → Shared → Prop}
theorem len_led {n : Nat} (N : News h₀ L s.heap led) (hm : (l, listOf vs.toArray k) ∈ led) (hn : vs.length = n) (hz : n ≤ 16777216) (h : Q (.int n (s.toks + 1)) { s with toks := s.toks + 1 + 1 }) :
    wpAny (model prog w) A (call (.builtin "len") [.ref l]) Q E s := by
  refine Calls.call_len_list (isl N hm) ?_ ?_
  · simp only [List.size_toArray]; lia
  · simp only [List.size_toArray, hn]; exact h
theorem item_led {value slice : Expr} {i : Int} {u : Tok} (N : News h₀ L s.heap led) (hm : (l, listOf vs.toArray k) ∈ led) (hI : IntsAre vs ns) (h0 : 0 ≤ i) (h1 : i < (ns.length : Int)) (hz : ns.length ≤ 16777216)
    (h : ∀ t, ns.getD i.toNat 0 ∈ ns → Q (.int (ns.getD i.toNat 0) t) s)
    (hs : subscripted slice false (.ref l) (.int i u) = operate [.ref l, .int i u] (getItem (.ref l) (.int i u)) := by with_unfolding_all rfl) (hg : ∀ r, letTemporaryGo value (.ref l) r = pure () := by intro _; with_unfolding_all rfl) :
    wpAny (model prog w) A (subscriptTail value slice (.ref l) (.int i u)) Q E s := by
  have hlt : i.toNat < ns.length := by lia
  have e : ns[i.toNat]? = some (ns.getD i.toNat 0) := by simp [List.getD_eq_getElem?_getD, hlt]
  obtain ⟨t, hx⟩ := hI.get i.toNat _ e
  exact item_list (isl N hm) h0 (by lia) (by simpa using hx) (h t (List.mem_of_getElem? e)) hs hg
theorem itemV_led {value slice : Expr} {i : Int} {u : Tok} {v : Value} (N : News h₀ L s.heap led) (hm : (l, listOf vs.toArray k) ∈ led) (h0 : 0 ≤ i) (hz : i < 16777216) (hv : vs[i.toNat]? = some v) (h : Q v s)
    (hs : subscripted slice false (.ref l) (.int i u) = operate [.ref l, .int i u] (getItem (.ref l) (.int i u)) := by with_unfolding_all rfl) (hg : ∀ r, letTemporaryGo value (.ref l) r = pure () := by intro _; with_unfolding_all rfl) :
    wpAny (model prog w) A (subscriptTail value slice (.ref l) (.int i u)) Q E s :=
  item_list (isl N hm) h0 (by lia) (by simpa using hv) h hs hg
end
/-- the octets of a list of ints -/
noncomputable def bytesOf (ks : List Int) : Array UInt8 := (ks.map fun n => n.toNat.toUInt8).toArray
theorem bInts_bytesOf {ks : List Int} (h : ∀ k ∈ ks, 0 ≤ k ∧ k < 256) : KBw.bInts (bytesOf ks) = ks := by
  unfold KBw.bInts bytesOf
  simp only [List.map_map]
  have : ∀ k ∈ ks, ((fun c : UInt8 => (c.toNat : Int)) ∘ fun n : Int => n.toNat.toUInt8) k = k := by
    intro k hk
    have := h k hk
    simp only [Function.comp]
    have e : k.toNat < 256 := by lia
    have e2 : (k.toNat.toUInt8).toNat = k.toNat := by simp [Nat.toUInt8, UInt8.toNat_ofNat', Nat.mod_eq_of_lt e]
    lia
  exact (List.map_congr_left this).trans (List.map_id' _)
section
variable {prog : Program} {w : World} {A : Around} {E : Value → Shared → Prop} {s : Shared} {h₀ : Heap} {L l : Addr} {m : Str → Option Value} {led : List (Addr × Obj)} {vs : List Value} {k : Nat} {ns : List Int} {Q : Value → Shared → Prop}
theorem bytes_led (F : Fr h₀ L s.heap m) (N : News h₀ L s.heap led) (hm : (l, listOf vs.toArray k) ∈ led) (hi : IntsAre vs ns) (hr : ∀ n ∈ ns, 0 ≤ n ∧ n < 256) (hz : ns.length ≤ 16777216) (hh : A.handled = none)
    (h : ∀ h' t k, Fr h₀ L h' m → News h₀ L h' led → Q (.bytes (bytesOf ns) t) { s with heap := h', toks := k }) : wpAny (model prog w) A (call (.type "bytes") [.ref l]) Q E s :=
  call_bytes_ints (isl N hm) hi hr (by rw [hi.length, PySem.sizeLine_eq]; exact hz) hh fun h' t k hk => h h' t k (F.keeps hk) (fun q hq => ⟨hk _ _ (N q hq).1, (N q hq).2⟩)
end
theorem cut_clip (ks : List Int) {lo hi : Int} (h0 : 0 ≤ lo) (h1 : lo ≤ hi) :
    (ks.drop (clipAt ks.length lo)).take (clipAt ks.length hi - clipAt ks.length lo) = (ks.drop lo.toNat).take (hi - lo).toNat := by
  have e1 : clipAt ks.length lo = min lo.toNat ks.length := by
    have := clipAt_nat ks.length lo.toNat
    rwa [Int.toNat_of_nonneg h0] at this
  have e2 : clipAt ks.length hi = min hi.toNat ks.length := by
    have := clipAt_nat ks.length hi.toNat
    rwa [Int.toNat_of_nonneg (by lia)] at this
  rw [e1, e2]
  by_cases hl : lo.toNat ≤ ks.length
  · rw [Nat.min_eq_left hl]
    by_cases hh : hi.toNat ≤ ks.length
    · rw [Nat.min_eq_left hh]; congr 1; lia
    · rw [Nat.min_eq_right (by lia)]
      rw [List.take_of_length_le (by rw [List.length_drop]; lia), List.take_of_length_le (by rw [List.length_drop]; lia)]
  · rw [Nat.min_eq_right (show ks.length ≤ lo.toNat by lia), List.drop_of_length_le (Nat.le_refl _), List.drop_of_length_le (by lia)]
    simp
section
variable {prog : Program} {w : World} {A : Around} {E : Value → Shared → Prop} {s : Shared} {value slice : PySem.Expr} {b : Array UInt8} {t : Tok} {h₀ : Heap} {L : Addr} {m : PySem.Str → Option Value} {news : List (Addr × Obj)} {l u : Value} {lo hi : Int} {Q : Value → Shared → Prop} {ks : List Int}
theorem slice_bytes (hF : Fr h₀ L s.heap m) (hN : News h₀ L s.heap news) (hk : KBw.bInts b = ks) (hl : IsPart l (some lo)) (hu : IsPart u (some hi)) (h0 : 0 ≤ lo) (h1 : lo ≤ hi) (hz : ks.length ≤ 16777216)
    (h : ∀ (pb : Array UInt8) (cs : List Int) (h' : Heap) (t' : Tok) (k : Nat), Fr h₀ L h' m → News h₀ L h' news → KBw.bInts pb = cs → cs = (ks.drop lo.toNat).take (hi - lo).toNat → Q (.bytes pb t') { s with heap := h', toks := k })
    (hs : subscripted slice false (.bytes b t) (.ref s.heap.objs.size) = operate [.ref s.heap.objs.size, .bytes b t] (getItem (.bytes b t) (.ref s.heap.objs.size)) := by with_unfolding_all rfl)
    (ht : ∀ r, letTemporaryGo value (.bytes b t) r = pure () := by intro _; with_unfolding_all rfl) :
    wpAny (model prog w) A (subscriptTail value slice (.bytes b t) (.ref s.heap.objs.size)) Q E { s with heap := s.heap.push { cls := .type "slice", data := .fields #[l, u, .none] } } :=
  KBc.slice_K hF hN hk hl hu hz (fun h' t' k F' N' e => h _ _ h' t' k F' N' e (cut_clip ks h0 h1)) hs ht
end
theorem words_4 : True := by
  (k_with "own k_mem" => ((fail_if_success (with_reducible show _ ∈ ([] : List (Addr × Obj)))); (repeat (first | exact List.mem_cons_self | assumption | refine List.mem_cons_of_mem _ ?_)); done))
  (k_with "m len" => first | exact IntsAre.length (by assumption) | assumption | rfl)
  (k_with "call builtin:len" => (k_here; (with_reducible show wpAny _ _ (call (Value.builtin "len") [Value.ref _]) _ _ _); k_dflt (refine len_led (by k_asm) (by k_mem) (by k_extra "m len") (by omega) ?_; k_whole)))
  (k_with "subscriptTail" => (k_here; (with_reducible show wpAny _ _ (subscriptTail _ _ (Value.ref _) (Value.int _ _)) _ _ _); k_dflt (refine item_led (by k_asm) (by k_mem) (by assumption) (by first | omega | (apply Int.emod_nonneg; omega)) (by first | omega | (apply Int.emod_lt_of_pos; omega)) (by omega) ?_; k_whole); intro _ _))
  (k_with "subscriptTail Name Slice ref ref" => (k_here; (with_reducible show wpAny _ _ (subscriptTail _ (PySem.Expr.Slice none _ none _) (Value.ref _) (Value.ref _)) _ _ _); k_dflt (refine kmk_slice_ints (by k_asm) (by k_asm) (by kmk_list) (by kmk_part) (by kmk_part) (by l_ints) (kmk_upto (by l_ints) (by omega)) rfl ?_ (by with_unfolding_all rfl) (by kmk_pure) (by kmk_size)); intro D' ws' h' F' N' l1 hI' hC' hL'))
  (k_with "call type:bytes" => (k_here; (with_reducible show wpAny _ _ (call (Value.type _) [Value.ref _]) _ _ _); k_dflt (refine bytes_led (by k_asm) (by k_asm) (by first | assumption | k_mem) (by first | assumption | l_ints) (by assumption) (by omega) (by with_unfolding_all rfl) ?_; k_whole); intro h9 t9 k9 F9 N9))
  (k_with "subscriptTail Name Slice bytes ref" => (k_here; (with_reducible show wpAny _ _ (subscriptTail _ (PySem.Expr.Slice (some _) (some _) none _) (Value.bytes _ _) (Value.ref _)) _ _ _); k_dflt (refine slice_bytes (s := ⟨_, _, _, _, _⟩) (by k_asm) (by k_asm) (by assumption) (by constructor) (by constructor) (by omega) (by omega) (by omega) ?_; k_whole); intro pb cs h9 t9 k9 F9 N9 hP9 hc9))
  trivial
/-- the draw -/
noncomputable def drawI (ns : List Int) (i : Int) : Int := ns.getD (i % (ns.length : Int)).toNat 0 + 7919 * i
theorem draw_spec {w : World} {mean : ExcName → Option Value} {mg mb : Str → Option Value} {led : List (Addr × Obj)} (l : Addr) (k : Nat) (vs : List Value) (ns : List Int) (i : Int) (ti : Tok) (hm : (l, listOf vs.toArray k) ∈ led)
    (hI : IntsAre vs ns) (hn : 0 < ns.length) (hlen : ns.length ≤ 40) (h0 : 0 ≤ i) (hi : i ≤ 1000) (hr : ∀ x ∈ ns, 0 ≤ x ∧ x < 999983) :
    Pure1 w mean mg mb led 1 131 [.ref l, .int i ti] (fun t => .int (drawI ns i) t) := by
  intro dp un gd cn cs a ccd cl outer A₀ base h₀ L m s Q E B F X N T hk hdp hun R
  refine wpAny_call ?_
  k_dflt (refine' code_def (binds := [(Str.ofString "nums", .ref l), (Str.ofString "i", .int i ti)]) ?k1 ?k2 ?k3 ?k4 ?k5 ?kA ?kF ?kK ?k6 ?k7 ?k8 ?k9 ?kB ?_ ?c2 ?c3 ?c4 ?c5; (case kA => exact rfl); (case kF => exact rfl); (case kK => assumption); (case k1 => k_asm); (case k2 => k_asm); (case k3 => k_asm); (case k4 => k_asm); (case k5 => k_asm); (case k6 => k_is); (case k7 => k_is); (case k8 => ktr_room); (case k9 => exact BindsTo.of_eq rfl); (case c5 => decide); (case kB => exact locs rfl); (case c2 => exact rfl); (case c3 => exact rfl); (case c4 => exact rfl); k_whole; intro g' L' h' FG' F' N' B' X' T'; (try dsimp only); (try k_lift B'); (try k_fold))
  k_extra "m steps"
  refine end_int (y := drawI ns i) ?_ (R _ _ _ (by assumption) (by assumption))
  rw [Int.fmod_eq_emod_of_nonneg _ (by omega)]; rfl
theorem drawI_range {ns : List Int} {i : Int} (hn : 0 < ns.length) (h0 : 0 ≤ i) (hr : ∀ x ∈ ns, 0 ≤ x ∧ x < 999983) : 7919 * i ≤ drawI ns i ∧ drawI ns i < 999983 + 7919 * i := by
  have h1 : (i % (ns.length : Int)).toNat < ns.length := by
    have := Int.emod_lt_of_pos i (show (0 : Int) < ns.length by omega)
    have := Int.emod_nonneg i (show (ns.length : Int) ≠ 0 by omega)
    omega
  have e : ns.getD (i % (ns.length : Int)).toNat 0 ∈ ns := by
    rw [List.getD_eq_getElem?_getD, List.getElem?_eq_getElem h1]
    exact List.getElem_mem h1
  have := hr _ e
  unfold drawI
  omega
theorem words_5 : True := by
  (k_with "call ref" => (k_here; (with_reducible show wpAny _ _ (call (Value.ref 131) _) _ _ _); k_dflt (refine Pure1.call (by k_asm) (by k_asm) (by k_asm) (by k_asm) (by k_asm) (by first | exact rfl | assumption) (by ktr_room) (by ktr_units) (draw_spec _ _ _ _ _ _ (by k_mem) (by assumption) (by omega) (by omega) (by omega) (by omega) (by assumption)) ?_; k_whole); intro t9 h9 tk9 F9 N9; (try dsimp only); (try k_fold)))
  trivial
noncomputable def wmenu (y : Int) : Int := ([2, 1, 3, 0, 4, 3, 2, 5, 1, 3, 8] : List Int).getD (y.fmod 11).toNat 0
noncomputable def wlist (y : Int) : List Int := [(y.fdiv 11).fmod 256, 254 + (y.fdiv 2816).fmod 2, (y.fdiv 5632).fmod 2 * 255, 98, 254 + (y.fdiv 2816).fmod 2, 0, 1, (y.fdiv 11).fmod 2]
/-- the word that a number makes -/
noncomputable def wordK (y : Int) : List Int := (wlist y).take (wmenu y).toNat
theorem wmenu_range (y : Int) : 0 ≤ wmenu y ∧ wmenu y ≤ 8 := by
  unfold wmenu
  have h0 : 0 ≤ y.fmod 11 := Int.fmod_nonneg_of_pos _ (by decide)
  have h1 : y.fmod 11 < 11 := Int.fmod_lt_of_pos _ (by decide)
  have : ∀ j : Nat, j < 11 → 0 ≤ ([2, 1, 3, 0, 4, 3, 2, 5, 1, 3, 8] : List Int).getD j 0 ∧ ([2, 1, 3, 0, 4, 3, 2, 5, 1, 3, 8] : List Int).getD j 0 ≤ 8 := by decide
  exact this _ (by omega)
theorem wordK_in {y k : Int} (h : k ∈ wordK y) : 0 ≤ k ∧ k < 256 := by
  have h := List.mem_of_mem_take h
  have a1 : 0 ≤ (y.fdiv 11).fmod 256 := Int.fmod_nonneg_of_pos _ (by decide)
  have a2 : (y.fdiv 11).fmod 256 < 256 := Int.fmod_lt_of_pos _ (by decide)
  have b1 : 0 ≤ (y.fdiv 2816).fmod 2 := Int.fmod_nonneg_of_pos _ (by decide)
  have b2 : (y.fdiv 2816).fmod 2 < 2 := Int.fmod_lt_of_pos _ (by decide)
  have c1 : 0 ≤ (y.fdiv 5632).fmod 2 := Int.fmod_nonneg_of_pos _ (by decide)
  have c2 : (y.fdiv 5632).fmod 2 < 2 := Int.fmod_lt_of_pos _ (by decide)
  have d1 : 0 ≤ (y.fdiv 11).fmod 2 := Int.fmod_nonneg_of_pos _ (by decide)
  have d2 : (y.fdiv 11).fmod 2 < 2 := Int.fmod_lt_of_pos _ (by decide)
  unfold wlist at h
  simp only [List.mem_cons, List.not_mem_nil, or_false] at h
  omega
theorem wordK_len (y : Int) : (wordK y).length ≤ 8 := by
  unfold wordK
  rw [List.length_take]
  exact Nat.min_le_right _ _
theorem word_spec {w : World} {mean : ExcName → Option Value} {mg mb : Str → Option Value} {led : List (Addr × Obj)} (y : Int) (ty : Tok) (h0 : 0 ≤ y) (hy : y < 100000000) :
    Pure1 w mean mg mb led 1 138 [.int y ty] (fun t => .bytes (bytesOf (wordK y)) t) := by
  intro dp un gd cn cs a ccd cl outer A₀ base h₀ L m s Q E B F X N T hk hdp hun R
  refine wpAny_call ?_
  k_dflt (refine' code_def (binds := [(Str.ofString "y", .int y ty)]) ?k1 ?k2 ?k3 ?k4 ?k5 ?kA ?kF ?kK ?k6 ?k7 ?k8 ?k9 ?kB ?_ ?c2 ?c3 ?c4 ?c5; (case kA => exact rfl); (case kF => exact rfl); (case kK => assumption); (case k1 => k_asm); (case k2 => k_asm); (case k3 => k_asm); (case k4 => k_asm); (case k5 => k_asm); (case k6 => k_is); (case k7 => k_is); (case k8 => ktr_room); (case k9 => exact BindsTo.of_eq rfl); (case c5 => decide); (case kB => exact locs rfl); (case c2 => exact rfl); (case c3 => exact rfl); (case c4 => exact rfl); k_whole; intro g' L' h' FG' F' N' B' X' T'; (try dsimp only); (try k_lift B'); (try k_fold))
  have hz : 0 ≤ ([2, 1, 3, 0, 4, 3, 2, 5, 1, 3, 8] : List Int).getD (y.fmod 11).toNat 0 := (wmenu_range y).1
  have hr : ∀ k ∈ [(y.fdiv 11).fmod 256, 254 + (y.fdiv 2816).fmod 2, (y.fdiv 5632).fmod 2 * 255, 98, 254 + (y.fdiv 2816).fmod 2, 0, 1, (y.fdiv 11).fmod 2].take (([2, 1, 3, 0, 4, 3, 2, 5, 1, 3, 8] : List Int).getD (y.fmod 11).toNat 0).toNat, 0 ≤ k ∧ k < 256 := fun k hk => wordK_in hk
  have hlen : ([(y.fdiv 11).fmod 256, 254 + (y.fdiv 2816).fmod 2, (y.fdiv 5632).fmod 2 * 255, 98, 254 + (y.fdiv 2816).fmod 2, 0, 1, (y.fdiv 11).fmod 2].take (([2, 1, 3, 0, 4, 3, 2, 5, 1, 3, 8] : List Int).getD (y.fmod 11).toNat 0).toNat).length ≤ 8 := wordK_len y
  k_extra "m steps"
  rename News _ _ _ _ => kN
  exact R _ _ _ (by assumption) (news_sub kN (fun p hp => .tail _ (.tail _ (.tail _ hp))))
theorem words_6 : True := by
  (k_with "call ref" => (k_here; (with_reducible show wpAny _ _ (call (Value.ref 138) _) _ _ _); k_dflt (refine Pure1.call (by k_asm) (by k_asm) (by k_asm) (by k_asm) (by k_asm) (by first | exact rfl | assumption) (by ktr_room) (by ktr_units) (word_spec _ _ (by omega) (by omega)) ?_; k_whole); intro t9 h9 tk9 F9 N9; (try dsimp only); (try k_fold)))
  trivial
theorem unrPost_mono {h₀ : Heap} {L : Addr} {s₁ : Shared} {I : Addr} {it : Obj} {R R' : (Str → Option Value) → List (Addr × Obj) → Prop} {Q : Flow → Shared → Prop} {f : Flow} {s₂ : Shared}
    (h : UnrPost h₀ L s₁ I it R Q f s₂) (hR : ∀ m n, R m n → R' m n) : UnrPost h₀ L s₁ I it R' Q f s₂ := by
  have key : UnrEnd h₀ L s₁ I it R s₂ → UnrEnd h₀ L s₁ I it R' s₂ := by
    rintro ⟨h', tk, m', n', e, F, N, o, r⟩
    exact ⟨h', tk, m', n', e, F, N, o, hR _ _ r⟩
  cases f with
  | ret v => exact h
  | brk => exact h
  | next => exact key h
  | cont => exact key h
section
variable {prog : Program} {w : World} {A : Around} {E : Value → Shared → Prop} {s : Shared} {env : Env} {h₀ : Heap} {x : Str} {body : List Stmt} {Q : Flow → Shared → Prop}
/-- a range's loop by what holds between the turns -/
theorem krs_ind {I : Addr} {a c : Int} {n : Nat} (Φ : Nat → (Str → Option Value) → List (Addr × Obj) → Prop)
    (turn : ∀ i m news t h tk, i < n → Φ i m news → Fr h₀ env.locals h (fun y => if y = x then some (.int (a + (i : Int) * c) t) else m y) →
      News h₀ env.locals h ((I, krsIt (a + ((i + 1 : Nat) : Int) * c) ((n : Int) - ((i + 1 : Nat) : Int)) c) :: news) →
      wpAny (model prog w) A (execs body env) (UnrPost h₀ env.locals { s with heap := h, toks := tk } I (krsIt (a + ((i + 1 : Nat) : Int) * c) ((n : Int) - ((i + 1 : Nat) : Int)) c) (Φ (i + 1)) Q) E { s with heap := h, toks := tk })
    (done : ∀ m news h tk, Φ n m news → Fr h₀ env.locals h m → News h₀ env.locals h news → Q .next { s with heap := h, toks := tk }) :
    ∀ (k i : Nat) (m : Str → Option Value) (news : List (Addr × Obj)), i + k = n → Φ i m news → KrsRest prog w A E h₀ env x body Q s I a c n k i m news
  | 0, i, m, news, hi, hΦ => by
    have : i = n := by lia
    subst this
    exact fun h tk F N => done m news h tk hΦ F N
  | k + 1, i, m, news, hi, hΦ => by
    intro t h tk F N
    refine wpAny_mono (turn i m news t h tk (by lia) hΦ F N) (fun f s₂ p => unrPost_mono p fun m' n' r => ?_) fun _ _ e => e
    exact krs_ind Φ turn done k (i + 1) m' n' (by lia) r
/-- a list's loop by what holds between the turns -/
theorem list_ind {I : Addr} {lp : Addr × Obj} {vs : List Value} (Φ : Nat → (Str → Option Value) → List (Addr × Obj) → Prop)
    (turn : ∀ i v m news (it : Obj) h tk, vs[i]? = some v → Φ i m news → it.cls = .type "list_iterator" → Fr h₀ env.locals h (fun y => if y = x then some v else m y) → News h₀ env.locals h ((I, it) :: news) →
      wpAny (model prog w) A (execs body env) (UnrPost h₀ env.locals { s with heap := h, toks := tk } I it (fun m' n' => lp ∈ n' ∧ Φ (i + 1) m' n') Q) E { s with heap := h, toks := tk })
    (done : ∀ m news h tk, Φ vs.length m news → Fr h₀ env.locals h m → News h₀ env.locals h news → Q .next { s with heap := h, toks := tk }) :
    ∀ (r : List Value) (i : Nat) (m : Str → Option Value) (news : List (Addr × Obj)), vs.drop i = r → Φ i m news → (i ≤ vs.length) → ListRest prog w A E h₀ env x body Q s I lp r m news
  | [], i, m, news, hi, hΦ, hl => by
    have : i = vs.length := by
      have := congrArg List.length hi
      simp only [List.length_drop, List.length_nil] at this
      omega
    subst this
    exact fun h tk F N => done m news h tk hΦ F N
  | v :: r, i, m, news, hi, hΦ, hl => by
    intro it h tk hc F N
    have hlt : i < vs.length := by
      have := congrArg List.length hi
      simp only [List.length_drop, List.length_cons] at this
      omega
    have hv : vs[i]? = some v := by
      have := congrArg (fun l => l[0]?) hi
      simpa using this
    refine wpAny_mono (turn i v m news it h tk hv hΦ hc F N) (fun f s₂ p => unrPost_mono p fun m' n' q => ⟨q.1, ?_⟩) fun _ _ e => e
    refine list_ind Φ turn done r (i + 1) m' n' ?_ q.2 hlt
    have := congrArg List.tail hi
    simpa using this
end
section
variable {prog : Program} {w : World} {A : Around} {h₀ : Heap} {L : Addr} {m : Str → Option Value} {env : Env} {elt : Expr} {x : Str} {scope : Scope} {cl : List (Str × Addr)} {s : Shared} {S : List (Addr × Obj) → Prop} {P : Nat → Value → Prop} {Fin : List Value → List (Addr × Obj) → Prop}
/-- a comprehension by what holds between the turns -/
theorem comp_ind {n : Nat} (Φ : Nat → List Value → List (Addr × Obj) → Prop)
    (turn : ∀ i v ys news I oI C oC D m₂ h tk (E' : Value → Shared → Prop), i < n → P i v → Φ i ys news → LCg.NsObj oC m₂ → m₂ x = some v → Fr h₀ L h m → News h₀ L h ((I, oI) :: (C, oC) :: (D, LCg.lst ys) :: news) → LCg.Off3 I C D news → ((@Ne Nat I C) ∧ (@Ne Nat I D) ∧ (@Ne Nat C D)) →
      wpAny (model prog w) A (eval elt (compEnvC scope cl C env)) (LCg.CompEnd h₀ L m { s with heap := h, toks := tk } I oI C oC D (LCg.lst ys) S (fun y news' => Φ (i + 1) (ys ++ [y]) news')) E' { s with heap := h, toks := tk })
    (fin : ∀ ys news, Φ n ys news → Fin ys news) :
    ∀ (k i : Nat) (ys : List Value) (news : List (Addr × Obj)), i + k = n → Φ i ys news → LCg.CompRest prog w A h₀ L m env elt x scope cl s S P Fin k i ys news
  | 0, i, ys, news, hi, hΦ => by
    have : i = n := by omega
    subst this
    exact LCg.CompRest.zero (fin ys news hΦ)
  | k + 1, i, ys, news, hi, hΦ => by
    refine LCg.CompRest.succ ?_
    intro v I oI C oC D m₂ h tk E' hv hC hx F N off ne
    refine wpAny_mono (turn i v ys news I oI C oC D m₂ h tk E' (by omega) hv hΦ hC hx F N off ne) (fun y s₂ q => ?_) fun _ _ e => e
    obtain ⟨h', tk', nw, e, F', N', off', hS, r⟩ := q
    exact ⟨h', tk', nw, e, F', N', off', hS, comp_ind Φ turn fin k (i + 1) (ys ++ [y]) nw (by omega) r⟩
end
theorem led_ne {led : List (Addr × Obj)} {D d : Nat} (h : ∀ p ∈ led, p.1 < D) (hd : @LE.le Nat instLENat D d) : ∀ p ∈ led, p.1 ≠ d := fun p hp => Nat.ne_of_lt (Nat.lt_of_lt_of_le (h p hp) hd)
theorem small_of {a b c : Int} (ha : -(2 ^ 40) ≤ a) (ha' : a < 2 ^ 40) (hb : -(2 ^ 40) ≤ b) (hb' : b < 2 ^ 40) (hc : 0 < c) (hc' : c < 2 ^ 40) : Builtin.Range.small a b c = true := by
  unfold Builtin.Range.small Builtin.Range.rangeSize
  simp only [Builtin.Range.rangeFitsLong, Bool.and_eq_true, Bool.or_eq_true, decide_eq_true_eq, beq_iff_eq, show c > 0 from hc, if_true]
  split
  · have h1 : 0 ≤ (b - a - 1) / c := Int.ediv_nonneg (by omega) (by omega)
    have h2 : (b - a - 1) / c ≤ b - a - 1 := Int.ediv_le_self _ (by omega)
    omega
  · omega
theorem cons_ne {led : List (Addr × Obj)} {D I : Nat} {o : Obj} (h : @LT.lt Nat instLTNat D I) (l1 : ∀ p ∈ led, p.1 < D) : ∀ p ∈ (D, o) :: led, p.1 ≠ I := by
  intro p hp
  rcases List.mem_cons.mp hp with rfl | hp
  · exact Nat.ne_of_lt h
  · exact Nat.ne_of_lt (Nat.lt_trans (l1 p hp) h)
theorem words_7 : True := by
  (k_with "own k_all" => (refine led_ne (by assumption) (by omega)))
  (k_with "exec For Name Call cons nil" => (k_here; (rename Fr _ _ _ _ => lF'); (with_unfolding_all refine For_invVF lF' (by exact rfl) (by exact rfl) ?_; k_whole)))
  (k_with "exec For Name Name cons nil" => (k_here; (rename Fr _ _ _ _ => lF'); (with_unfolding_all refine For_invVF lF' (by exact rfl) (by exact rfl) ?_; k_whole)))
  (k_with "eval ListComp" => (k_here; (fail_if_success ((with_reducible show wpAny _ _ _ _ _ _); lct_look)); k_dflt (refine LCg.ListComp_U (F₀ := by k_asm) (by with_unfolding_all rfl) (by decide) (by rfl) (by decide) (by rfl) ?_)))
  (k_with "exec Assign cons ListComp" => (k_here; (fail_if_success ((with_reducible show wpAny _ _ _ _ _ _); lct_look)); k_dflt (refine LCg.Assign_ListComp_U (F₀ := by k_asm) (by rfl) (by with_unfolding_all rfl) (by with_unfolding_all rfl) (by decide) (by rfl) (by decide) (by rfl) (by rfl) (by rfl) ?_)))
  trivial
/-- the frame of _law_spots between the turns: its cells -/
noncomputable def SpotL (L' : Nat) (o1 o2 o3 o4 : Obj) (led : List (Addr × Obj)) : List (Addr × Obj) := (L' + 1 + 1 + 1 + 1, o1) :: (L' + 1 + 1 + 1, o2) :: (L' + 1 + 1, o3) :: (L' + 1, o4) :: led
noncomputable def SpotJ (L' : Nat) (b : Array UInt8) (tb tp tw : Tok) (p wd : Int) (ks : List Int) (led : List (Addr × Obj)) (i : Nat) (m : Str → Option Value) (news : List (Addr × Obj)) : Prop :=
  ∃ (o1 o2 o3 o4 : Obj) (h : Int) (th : Tok) (v1 v2 : Option Value), news = SpotL L' o1 o2 o3 o4 led ∧ o1.data = .cell v1 ∧ o2.data = .cell v2 ∧ o3.data = .cell (some (.int h th)) ∧ o4.data = .cell (some (.int wd tw)) ∧
    0 ≤ h ∧ h < 4294967296 ∧ hashR h (ks.drop (4 * i)) = hashK ks ∧ m (Str.ofString "key") = some (.bytes b tb) ∧ m (Str.ofString "probes") = some (.int p tp)
theorem range4 (n : Nat) : Builtin.Range.rangeSize 0 (n : Int) 4 = (((n + 3) / 4 : Nat) : Int) := by
  unfold Builtin.Range.rangeSize
  simp only [show (4 : Int) > 0 from by decide, if_true]
  split <;> lia
theorem spotL_ne {L' I : Nat} {o1 o2 o3 o4 : Obj} {led : List (Addr × Obj)} (h : @LT.lt Nat instLTNat (L' + 1 + 1 + 1 + 1) I) (l1 : ∀ p ∈ led, p.1 < L') : ∀ p ∈ SpotL L' o1 o2 o3 o4 led, p.1 ≠ I := by
  intro p hp
  unfold SpotL at hp
  simp only [List.mem_cons] at hp
  rcases hp with rfl | rfl | rfl | rfl | hp
  · exact Nat.ne_of_lt h
  · exact Nat.ne_of_lt (show L' + 1 + 1 + 1 < I by lia)
  · exact Nat.ne_of_lt (show L' + 1 + 1 < I by lia)
  · exact Nat.ne_of_lt (show L' + 1 < I by lia)
  · have := l1 p hp
    exact Nat.ne_of_lt (Nat.lt_trans this (show L' < I by lia))
theorem off1_ne {D : Addr} : ∀ {l : List (Addr × Obj)}, LCg.Off1 D l → ∀ q ∈ l, D ≠ q.1
  | [], _, _, h => nomatch h
  | _ :: _, x, q, h => by
    rcases List.mem_cons.mp h with rfl | h
    · exact fun e => x.1 e.symm
    · exact off1_ne x.2 q h
theorem range1 (n : Nat) : Builtin.Range.rangeSize 0 (n : Int) 1 = (n : Int) := by
  rw [rangeSize_one]; split <;> lia
theorem spots_spec {w : World} {mean : ExcName → Option Value} {mg mb : Str → Option Value} {led : List (Addr × Obj)} (b : Array UInt8) (tb tp tw : Tok) (ks : List Int) (hks : KBw.bInts b = ks) (hb : ks.length ≤ 1000) (p wd : Int) (hp0 : 0 ≤ p) (hp : p ≤ 30) (hw0 : 0 < wd) (hw : wd ≤ 1000000) :
    Spec1 w mean mg mb led 1 143 [.bytes b tb, .int p tp, .int wd tw] (fun v own => ∃ D vs k, v = .ref D ∧ own = [(D, listOf vs.toArray k)] ∧ IntsAre vs (spotsK ks p.toNat wd)) := by
  intro dp un gd cn cs a ccd cl outer A₀ base h₀ L m s Q E B F X N T hk hdp hun R
  refine wpAny_call ?_
  k_dflt (refine' code_defC (binds := [(Str.ofString "key", .bytes b tb), (Str.ofString "probes", .int p tp), (Str.ofString "wide", .int wd tw)]) ?k1 ?k2 ?k3 ?k4 ?k5 ?kA ?kF ?kK ?k6 ?k7 ?k8 ?k9 ?kB ?kD ?_ ?c2 ?c3 ?c4; (case kA => exact rfl); (case kF => exact rfl); (case kK => assumption); (case k1 => k_asm); (case k2 => k_asm); (case k3 => k_asm); (case k4 => k_asm); (case k5 => k_asm); (case k6 => k_is); (case k7 => k_is); (case k8 => ktr_room); (case k9 => exact BindsTo.of_eq rfl); (case kB => exact rfl); (case kD => decide +kernel); (case c2 => exact rfl); (case c3 => exact rfl); (case c4 => exact rfl); k_whole; intro g' L' h' tk' cells' FG' F' N' Y' B' X' T' l1; (try k_lt l1); k_cells Y'; (try simp only [List.cons_append, List.nil_append] at N'); (try dsimp only); (try k_lift B'); (try k_fold))
  k_extra "m steps"
  rename Fr _ _ _ _ => F1
  rename News _ _ _ _ => N1
  rename IsRange _ _ _ _ _ _ _ _ => R1
  refine krs_iter (n := (ks.length + 3) / 4) rfl R1 (small_of (by lia) (by lia) (by lia) (by lia) (by lia) (by lia)) (range4 _) F1 N1 ?_
  intro I lI
  replace lI : @LT.lt Nat instLTNat (L' + 1 + 1 + 1 + 1) I := lI _ (List.Mem.head _)
  refine krs_ind (SpotJ L' b tb tp tw p wd ks led) ?_ ?_ _ _ _ _ (Nat.zero_add _) ?_
  · rintro i m1 news1 t1 h1 tk1 hi ⟨o1, o2, o3, o4, hh, th, v1, v2, rfl, e1, e2, e3, e4, hh0, hhW, hR, mk, mp⟩ F2 N2
    replace F2 := knowsS F2 (kcons mk (kcons mp knil))
    unfold SpotL at N2
    clear F1 N1 R1
    repeat' ((fail_if_success (with_reducible show wpAny _ _ (storeName _ _ _) _ _ _)); k_extra "m steps 1")
    rename KBw.bInts _ = _ => hP
    rename (_ = List.take _ _) => hcs
    have hc4 : cs.length ≤ 4 := by
      rw [hcs, List.length_take]
      lia
    k_extra "m steps"
    rename IsRange _ _ _ _ _ _ _ _ => R2
    rename Fr _ _ _ _ => F3
    rename News _ _ _ _ => N3
    refine LCg.CompSrc.range (n := cs.length) rfl F3 N3 R2 (small_of (by lia) (by lia) (by lia) (by lia) (by lia) (by lia)) (range1 _) (by rw [PySem.sizeLine_eq]; lia) fun g => ?_
    refine comp_ind (fun j ys news => news = _ ∧ IntsAre ys ((List.range j).map fun q => cs.getD q 0 * 256 ^ q)) ?_ ?_ _ _ _ _ (Nat.zero_add _) ⟨rfl, .nil⟩
    · rintro j v ys news I3 oI C oC D m3 h3 tk3 E3 hj ⟨tj, rfl⟩ ⟨rfl, hys⟩ hC hx F4 N4 off ne
      k_extra "m steps"
      refine LCg.CompEnd.intro (by assumption) (by assumption) _ (fun p hp => hp) off trivial ⟨rfl, ?_⟩
      rw [List.range_succ, List.map_append, Int.zero_add, Int.toNat_natCast]
      exact IntsAre.append hys (.cons _ _ .nil)
    · rintro ys news ⟨rfl, hys⟩ D h5 tk5 F5 N5 off5
      simp only [LCg.Off1] at off5
      have hi4 : i * 4 < ks.length := by lia
      have hne : ks.drop (4 * i) ≠ [] := by
        intro e
        have := congrArg List.length e
        simp only [List.length_drop, List.length_nil] at this
        lia
      have hcs' : (ks.drop (4 * i)).take 4 = cs := by
        rw [hcs]
        congr 1
        · lia
        · congr 1; lia
      have hst := chunk_step hh _ hne
      rw [hcs', List.drop_drop, hR] at hst
      have hm := mulh_range hh (chunkS cs)
      k_extra "m steps"
      · rename Obj.data _ = Data.cell (some (Value.int _ _)) => d3
        rename Obj.data _ = Data.cell (some (Value.bytes _ _)) => d2
        rename News _ _ _ _ => N9
        rename Fr _ _ _ _ => F9
        have hl : cs.length = 4 := by lia
        rw [if_pos hl] at hst
        have hx := mix_range hm.1 hm.2 (u := 65536) (by decide)
        have e : (List.map (fun q => cs.getD q 0 * 256 ^ q) (List.range cs.length)).sum = chunkS cs := rfl
        rw [e, mulh_fmod, mix_fdiv16] at d3
        exact UnrEnd.intro F9 N9 _ (fun p hp => .tail _ hp) (spotL_ne lI l1) ⟨_, _, _, _, _, _, _, _, rfl, e1, d2, d3, e4, hx.1, hx.2, hst.symm, rfl, rfl⟩
      · rename Obj.data _ = Data.cell (some (Value.int _ _)) => d3
        rename Obj.data _ = Data.cell (some (Value.bytes _ _)) => d2
        rename News _ _ _ _ => N9
        rename Fr _ _ _ _ => F9
        have hl : ¬ cs.length = 4 := by lia
        rw [if_neg hl] at hst
        have hx := mix_range hm.1 hm.2 (u := 16777216) (by decide)
        have e : (List.map (fun q => cs.getD q 0 * 256 ^ q) (List.range cs.length)).sum = chunkS cs := rfl
        rw [e, mulh_fmod, mix_fdiv24] at d3
        exact UnrEnd.intro F9 N9 _ (fun p hp => .tail _ hp) (spotL_ne lI l1) ⟨_, _, _, _, _, _, _, _, rfl, e1, d2, d3, e4, hx.1, hx.2, hst.symm, rfl, rfl⟩
  · rintro m1 news1 h1 tk1 ⟨o1, o2, o3, o4, hh, th, v1, v2, rfl, e1, e2, e3, e4, hh0, hhW, hR, mk, mp⟩ F2 N2
    replace F2 := knows F2 (kcons mk (kcons mp knil))
    rw [List.drop_of_length_le (by lia), hashR] at hR
    subst hR
    unfold SpotL at N2
    clear F1 N1 R1
    k_extra "m steps"
    rename IsRange _ _ _ _ _ _ _ _ => R2
    rename Fr _ _ _ _ => F3
    rename News _ _ _ _ => N3
    have ep : ((p.toNat : Nat) : Int) = p := Int.toNat_of_nonneg hp0
    refine LCg.CompSrc.range (n := p.toNat) rfl F3 N3 R2 (small_of (by lia) (by lia) (by lia) (by lia) (by lia) (by lia)) (by rw [← ep]; exact range1 _) (by rw [PySem.sizeLine_eq]; lia) fun g => ?_
    refine comp_ind (fun j ys news => news = _ ∧ IntsAre ys ((List.range j).map (spotK (hashK ks) wd))) ?_ ?_ _ _ _ _ (Nat.zero_add _) ⟨rfl, .nil⟩
    · rintro j v ys news I3 oI C oC D m3 h3 tk3 E3 hj ⟨tj, rfl⟩ ⟨rfl, hys⟩ hC hx F4 N4 off ne
      k_extra "m steps"
      refine LCg.CompEnd.intro (by assumption) (by assumption) _ (fun p hp => hp) off trivial ⟨rfl, ?_⟩
      rw [List.range_succ, List.map_append, Int.zero_add, spot_fmod _ hw0]
      exact IntsAre.append hys (.cons _ _ .nil)
    · rintro ys news ⟨rfl, hys⟩ D h5 tk5 F5 N5 off5
      k_extra "m steps"
      rename News _ _ _ _ => kN
      rename Fr _ _ _ _ => kF
      refine R _ [(D, LCg.lst ys)] _ _ ⟨D, ys, _, rfl, rfl, hys⟩ kF (news_sub kN fun p hp => ?_) fun p hp q hq => ?_
      · rcases List.mem_cons.mp hp with rfl | hp
        · exact .head _
        · exact .tail _ (.tail _ (.tail _ (.tail _ (.tail _ hp))))
      · rw [List.mem_singleton.mp hp]
        exact off1_ne off5 q (.tail _ (.tail _ (.tail _ (.tail _ hq))))
  · rename Obj.data _ = Data.cell (some (Value.int _ _)) => d3
    rw [hash0_fmod] at d3
    exact ⟨_, _, _, _, hash0 ks.length, _, _, _, rfl, by assumption, by assumption, d3, by assumption, (hash0_range _).1, (hash0_range _).2, rfl, rfl, rfl⟩
section
variable {prog : Program} {w : World} {A : Around} {E : Value → Shared → Prop} {s : Shared} {h₀ h : Heap} {L D b : Addr} {m : Str → Option Value} {news : List (Addr × Obj)} {g : Obj → List (Addr × Obj)} {vs vs2 : List Value} {n n2 : Nat}
theorem extend_led {Q : Value → Shared → Prop} (F : Fr h₀ L s.heap m) (N : News h₀ L s.heap news) (U : UpdF D (listOf vs.toArray n) news g) (hb : (b, listOf vs2.toArray n2) ∈ news) (hz : vs.length + vs2.length ≤ 16777216)
    (h : ∀ h' n', Fr h₀ L h' m → News h₀ L h' (g (listOf (vs ++ vs2).toArray n')) → Q .none { s with heap := h' }) : wpAny (model prog w) A (call (.builtin "list.extend") [.ref D, .ref b]) Q E s := by
  obtain ⟨pre, post, rfl, hg, a, c⟩ := U.split
  have z := N (D, listOf vs.toArray n) (List.mem_append.mpr (.inr (.head _)))
  have q := PySem.IsL.update z.1 (fun x => x ++ vs2.toArray)
  rw [List.append_toArray] at q
  have N2 := N.setAt a c (Heap.SameBut.update ..) q
  rw [← hg] at N2
  refine call_meets PySem.F.slot_list_extend ⟨_, z.1, rfl⟩ PySem.F.entry_list_extend (PySem.F.args_list_extend_2 _ _) (PySem.AutoSeq1.list_extend_list_list_0 D vs.toArray n b vs2.toArray n2 ?_ ?_ ?_) ⟨z.1, (N _ hb).1, h _ _ (F.change (Heap.SameBut.update ..) z.2.1 z.2.2) N2⟩
  · simp only [Builtin.List.listTooLong, List.size_toArray, Bool.and_eq_true, decide_eq_true_eq, not_and]
    intro _
    rw [PySem.sizeLine_eq]; omega
  · rw [List.size_toArray, PySem.sizeLine_eq]; omega
  · rw [List.size_toArray, List.size_toArray, PySem.sizeLine_eq]; omega
end
theorem words_8 : True := by
  (k_with "call builtin:list.extend" => (k_here; (with_reducible show wpAny _ _ (call (Value.builtin _) [Value.ref _, Value.ref _]) _ _ _); k_dflt (refine extend_led (by k_asm) (by k_asm) (by k_updF) (by k_mem) (by omega) ?_; k_whole); intro h9 n9 F9 N9; (try dsimp only at N9)))
  trivial
/-! sorting ints of any number: the pieces of list.sort -/
section
variable {prog : Program} {w : World} {A : Around} {E : Value → Shared → Prop} {s : Shared}

noncomputable abbrev setGal (st : SortSt) (g : Nat) : SortSt := SortSt.mk' (kindOf st) (arrOf st) (pendingOf st) g (failedOf st)
noncomputable def gallopP : Bool → Keyed → Array Keyed → Nat → Nat → Nat → StateT SortSt Sem (Option Nat) := sortPriv% PySem.Builtin.gallop
noncomputable def mergeLoP : Array Keyed → Array Keyed → StateT SortSt Sem (Array Keyed) := sortPriv% PySem.Builtin.mergeLo
noncomputable def mergeHiP : Array Keyed → Array Keyed → StateT SortSt Sem (Array Keyed) := sortPriv% PySem.Builtin.mergeHi
noncomputable def setMinGallopP : Nat → StateT SortSt Sem Unit := sortPriv% PySem.Builtin.setMinGallop
theorem setMinGallopP_eq (g : Nat) : setMinGallopP g = modify fun s => setGal s g := rfl

/-- the key's number -/
noncomputable abbrev kn (p : Keyed) : Int := numOf p.1
noncomputable def IsIntK (p : Keyed) : Prop := ∃ n t, p.1 = .int n t
noncomputable abbrev kle (p q : Keyed) : Prop := kn p ≤ kn q

theorem wpS_lt {st : SortSt} {x y : Keyed} {Q : Option Bool → SortSt → Prop} (hk : kindOf st = oneType') (hx : IsIntK x) (hy : IsIntK y) (h : Q (some (decide (kn x < kn y))) st) :
    wpS (model prog w) A E s (lt' x y) Q st := by
  obtain ⟨a, t, ha⟩ := hx
  obtain ⟨b, u, hb⟩ := hy
  rw [lt'_eq]
  refine wpS_bind (wpS_get ?_)
  rw [hk, keyLt'_oneType, ha, hb]
  refine wpS_bind (wpS_lift (wpAny_attempt (oneLt_int ⟨rfl, ?_⟩)))
  have e : decide (kn x < kn y) = decide (a < b) := by unfold kn; rw [ha, hb]; rfl
  rw [e] at h
  exact wpS_pure h
theorem wpS_elem {st : SortSt} {arr : Array Keyed} {i : Nat} {p : Keyed} {Q : Keyed → SortSt → Prop} (hp : arr[i]? = some p) (h : Q p st) : wpS (model prog w) A E s (elem' arr i) Q st := by
  rw [elem'_eq, hp]
  exact wpS_pure h

/-- the place that a gallop asks for -/
noncomputable abbrev galB (left : Bool) (key x : Keyed) : Prop := if left then kn x < kn key else kn x ≤ kn key
noncomputable def beyondP (left : Bool) (key : Keyed) (arr : Array Keyed) (base i : Nat) : StateT SortSt Sem (Option Bool) := do
  let x ← elem' arr (base + i)
  if left = true then lt' x key else do
    let r ← lt' key x
    pure (Option.map (fun b => !b) r)
theorem wpS_beyond {st : SortSt} {left : Bool} {key x : Keyed} {arr : Array Keyed} {base i : Nat} {Q : Option Bool → SortSt → Prop} (hk : kindOf st = oneType') (hkey : IsIntK key) (hx : arr[base + i]? = some x) (hi : IsIntK x)
    (h : Q (some (decide (galB left key x))) st) : wpS (model prog w) A E s (beyondP left key arr base i) Q st := by
  unfold beyondP
  refine wpS_bind (wpS_elem hx ?_)
  cases left with
  | true =>
    simp only [if_true]
    refine wpS_lt hk hi hkey ?_
    simpa [galB] using h
  | false =>
    simp only [Bool.false_eq_true, if_false]
    refine wpS_bind (wpS_lt hk hkey hi (wpS_pure ?_))
    have e : (!decide (kn key < kn x)) = decide (kn x ≤ kn key) := by
      by_cases hh : kn key < kn x
      · simp [hh]
      · simp [hh, Int.not_lt.mp hh]
    simp only [Option.map, e]
    simpa [galB] using h

/-- the list l stands in arr from base on -/
noncomputable def Stands (arr : Array Keyed) (base : Nat) (l : List Keyed) : Prop := ∀ i (h : i < l.length), arr[base + i]? = some l[i]

theorem galB_mono {left : Bool} {key : Keyed} {l : List Keyed} (hs : l.Pairwise kle) {i j : Nat} (hij : i ≤ j) (hj : j < l.length) (h : galB left key (l[j]'hj)) : galB left key (l[i]'(Nat.lt_of_le_of_lt hij hj)) := by
  have hle : kn (l[i]'(Nat.lt_of_le_of_lt hij hj)) ≤ kn (l[j]'hj) := by
    rcases Nat.lt_or_eq_of_le hij with h' | rfl
    · exact List.pairwise_iff_getElem.mp hs i j _ hj h'
    · exact Int.le_refl _
  unfold galB at *
  cases left with
  | true => simp only [if_true] at *; omega
  | false => simp only [Bool.false_eq_true, if_false] at *; omega

/-- what a gallop gives: all ahead are beyond, none behind -/
noncomputable def GalAt (left : Bool) (key : Keyed) (l : List Keyed) (r : Nat) : Prop := r ≤ l.length ∧ (∀ x ∈ l.take r, galB left key x) ∧ ∀ x ∈ l.drop r, ¬ galB left key x
theorem galAt_of {left : Bool} {key : Keyed} {l : List Keyed} {r : Nat} (hr : r ≤ l.length) (h1 : ∀ i (h : i < l.length), i < r → galB left key l[i]) (h2 : ∀ i (h : i < l.length), r ≤ i → ¬ galB left key l[i]) : GalAt left key l r := by
  refine ⟨hr, fun x hx => ?_, fun x hx => ?_⟩
  · obtain ⟨i, hi, rfl⟩ := List.getElem_of_mem hx
    rw [List.getElem_take]
    rw [List.length_take] at hi
    exact h1 i (by omega) (by omega)
  · obtain ⟨i, hi, rfl⟩ := List.getElem_of_mem hx
    rw [List.getElem_drop]
    rw [List.length_drop] at hi
    exact h2 (r + i) (by omega) (by omega)
end
section
variable {prog : Program} {w : World} {A : Around} {E : Value → Shared → Prop} {s : Shared}
noncomputable def binP (left : Bool) (key : Keyed) (arr : Array Keyed) (base n lo₀ hi₀ : Nat) : StateT SortSt Sem (Option Nat) := do
  let mut lo := lo₀
  let mut hi := hi₀
  for _ in [0:n] do
    if lo ≥ hi then break
    let m := lo + (hi - lo) / 2
    let some more ← beyondP left key arr base m | return none
    if more then lo := m + 1 else hi := m
  return some hi
theorem wpS_binP {st : SortSt} {left : Bool} {key : Keyed} {arr : Array Keyed} {base n lo hi : Nat} {l : List Keyed} {Q : Option Nat → SortSt → Prop} (hk : kindOf st = oneType') (hkey : IsIntK key) (hl : Stands arr base l) (hn : n = l.length)
    (hs : l.Pairwise kle) (hI : ∀ x ∈ l, IsIntK x) (hlh : lo ≤ hi) (hhl : hi ≤ l.length) (h1 : ∀ i (h : i < l.length), i < lo → galB left key l[i]) (h2 : ∀ i (h : i < l.length), hi ≤ i → ¬ galB left key l[i])
    (h : ∀ r, GalAt left key l r → Q (some r) st) : wpS (model prog w) A E s (binP left key arr base n lo hi) Q st := by
  subst hn
  unfold binP
  dsimp only
  refine wpS_bind (wpS_mono (wpS_forRange (I := fun x c st' => st' = st ∧ ∃ lo hi, c = (none, lo, hi) ∧ lo ≤ hi ∧ hi ≤ l.length ∧ hi - lo ≤ l.length - x ∧
      (∀ i (h : i < l.length), i < lo → galB left key l[i]) ∧ ∀ i (h : i < l.length), hi ≤ i → ¬ galB left key l[i])
    (Q := fun c st' => st' = st ∧ ∃ r, c = (none, r, r) ∧ GalAt left key l r) ?step ?fin ?init) ?post)
  case init => exact ⟨rfl, lo, hi, rfl, hlh, hhl, by lia, h1, h2⟩
  case fin =>
    rintro c st' ⟨rfl, lo, hi, rfl, a1, a2, a3, a4, a5⟩
    have : lo = hi := by lia
    subst this
    exact ⟨rfl, lo, rfl, galAt_of a2 a4 a5⟩
  case post =>
    rintro c st' ⟨rfl, r, rfl, hr⟩
    exact wpS_pure (h r hr)
  case step =>
    rintro x c st' _ hx ⟨rfl, lo, hi, rfl, a1, a2, a3, a4, a5⟩
    dsimp only
    by_cases hge : lo ≥ hi
    · rw [if_pos hge]
      have : lo = hi := by lia
      subst this
      exact wpS_pure ⟨rfl, lo, rfl, galAt_of a2 a4 a5⟩
    · rw [if_neg hge]
      have hm : lo + (hi - lo) / 2 < l.length := by lia
      refine wpS_bind (wpS_beyond hk hkey (hl _ hm) (hI _ (List.getElem_mem hm)) ?_)
      by_cases hB : galB left key (l[lo + (hi - lo) / 2]'hm)
      · simp only [hB, decide_true, if_true]
        refine wpS_pure ⟨rfl, _, _, rfl, by lia, a2, by lia, fun i hi' hlt => ?_, a5⟩
        exact galB_mono hs (show i ≤ lo + (hi - lo) / 2 by lia) hm hB
      · simp only [hB, decide_false, Bool.false_eq_true, if_false]
        refine wpS_pure ⟨rfl, _, _, rfl, by lia, by lia, by lia, a4, fun i hi' hle hb => ?_⟩
        exact hB (galB_mono hs hle hi' hb)
theorem gallopP_eq2 (left : Bool) (key : Keyed) (arr : Array Keyed) (base n hint : Nat) : gallopP left key arr base n hint = (do
  let mut lastofs := 0
  let mut ofs := 1
  let some right ← beyondP left key arr base hint | return none
  if right then
    for _ in [0:n] do
      if ofs ≥ n - hint then break
      let some more ← beyondP left key arr base (hint + ofs) | return none
      if !more then break
      lastofs := ofs
      ofs := 2 * ofs + 1
    binP left key arr base n (hint + lastofs + 1) (hint + min ofs (n - hint))
  else
    for _ in [0:n] do
      if ofs ≥ hint + 1 then break
      let some found ← beyondP left key arr base (hint - ofs) | return none
      if found then break
      lastofs := ofs
      ofs := 2 * ofs + 1
    binP left key arr base n (hint + 1 - min ofs (hint + 1)) (hint - lastofs)) := rfl
theorem wpS_gallop {st : SortSt} {left : Bool} {key : Keyed} {arr : Array Keyed} {base n hint : Nat} {l : List Keyed} {Q : Option Nat → SortSt → Prop} (hk : kindOf st = oneType') (hkey : IsIntK key) (hl : Stands arr base l) (hn : n = l.length)
    (hs : l.Pairwise kle) (hI : ∀ x ∈ l, IsIntK x) (hh : hint < n) (h : ∀ r, GalAt left key l r → Q (some r) st) : wpS (model prog w) A E s (gallopP left key arr base n hint) Q st := by
  subst hn
  rw [gallopP_eq2]
  have hb : ∀ i (hi : i < l.length) {Q' : Option Bool → SortSt → Prop}, Q' (some (decide (galB left key l[i]))) st → wpS (model prog w) A E s (beyondP left key arr base i) Q' st :=
    fun i hi Q' hq => wpS_beyond hk hkey (hl i hi) (hI _ (List.getElem_mem hi)) hq
  dsimp only
  refine wpS_bind (hb hint hh ?_)
  by_cases hB : galB left key (l[hint]'hh)
  · simp only [hB, decide_true, if_true]
    refine wpS_bind (wpS_mono (wpS_forRange (I := fun x c st' => st' = st ∧ ∃ la of, c = (none, la, of) ∧ la < of ∧ x + 1 ≤ of ∧ (∃ h : hint + la < l.length, galB left key l[hint + la]))
      (Q := fun c st' => st' = st ∧ ∃ la of, c = (none, la, of) ∧ la < of ∧ (∃ h : hint + la < l.length, galB left key l[hint + la]) ∧ (of ≥ l.length - hint ∨ ∃ h : hint + of < l.length, ¬ galB left key l[hint + of])) ?step ?fin ?init) ?post)
    case init => exact ⟨rfl, 0, 1, rfl, by omega, by omega, hh, hB⟩
    case fin =>
      rintro c st' ⟨rfl, la, of, rfl, a1, a2, a3⟩
      exact ⟨rfl, la, of, rfl, a1, a3, .inl (by omega)⟩
    case step =>
      rintro x c st' _ hx ⟨rfl, la, of, rfl, a1, a2, a3⟩
      dsimp only
      by_cases hge : of ≥ l.length - hint
      · rw [if_pos hge]; exact wpS_pure ⟨rfl, la, of, rfl, a1, a3, .inl hge⟩
      · rw [if_neg hge]
        have hm : hint + of < l.length := by omega
        refine wpS_bind (hb _ hm ?_)
        by_cases hB2 : galB left key (l[hint + of]'hm)
        · simp only [hB2, decide_true, Bool.not_true, Bool.false_eq_true, if_false]
          exact wpS_pure ⟨rfl, of, 2 * of + 1, rfl, by omega, by omega, hm, hB2⟩
        · simp only [hB2, decide_false, Bool.not_false, if_true]
          exact wpS_pure ⟨rfl, la, of, rfl, a1, a3, .inr ⟨hm, hB2⟩⟩
    case post =>
      rintro c st' ⟨rfl, la, of, rfl, a1, ⟨hla, a3⟩, a4⟩
      dsimp only
      refine wpS_binP hk hkey hl rfl hs hI ?_ ?_ (fun i hi' hlt => ?_) (fun i hi' hle => ?_) h
      · omega
      · omega
      · exact galB_mono hs (show i ≤ hint + la by omega) hla a3
      · rcases a4 with a4 | ⟨ho, a4⟩
        · omega
        · exact fun hb' => a4 (galB_mono hs (show hint + of ≤ i by omega) hi' hb')
  · simp only [hB, decide_false, Bool.false_eq_true, if_false]
    refine wpS_bind (wpS_mono (wpS_forRange (I := fun x c st' => st' = st ∧ ∃ la of, c = (none, la, of) ∧ la < of ∧ x + 1 ≤ of ∧ la ≤ hint ∧ (∃ h : hint - la < l.length, ¬ galB left key l[hint - la]))
      (Q := fun c st' => st' = st ∧ ∃ la of, c = (none, la, of) ∧ la < of ∧ la ≤ hint ∧ (∃ h : hint - la < l.length, ¬ galB left key l[hint - la]) ∧ (of ≥ hint + 1 ∨ (of ≤ hint ∧ ∃ h : hint - of < l.length, galB left key l[hint - of]))) ?step ?fin ?init) ?post)
    case init => exact ⟨rfl, 0, 1, rfl, by omega, by omega, by omega, hh, hB⟩
    case fin =>
      rintro c st' ⟨rfl, la, of, rfl, a1, a2, a2', a3⟩
      exact ⟨rfl, la, of, rfl, a1, a2', a3, .inl (by omega)⟩
    case step =>
      rintro x c st' _ hx ⟨rfl, la, of, rfl, a1, a2, a2', a3⟩
      dsimp only
      by_cases hge : of ≥ hint + 1
      · rw [if_pos hge]; exact wpS_pure ⟨rfl, la, of, rfl, a1, a2', a3, .inl hge⟩
      · rw [if_neg hge]
        have hm : hint - of < l.length := by omega
        refine wpS_bind (hb _ hm ?_)
        by_cases hB2 : galB left key (l[hint - of]'hm)
        · simp only [hB2, decide_true, if_true]
          exact wpS_pure ⟨rfl, la, of, rfl, a1, a2', a3, .inr ⟨by omega, hm, hB2⟩⟩
        · simp only [hB2, decide_false, Bool.false_eq_true, if_false]
          exact wpS_pure ⟨rfl, of, 2 * of + 1, rfl, by omega, by omega, by omega, hm, hB2⟩
    case post =>
      rintro c st' ⟨rfl, la, of, rfl, a1, a2', ⟨hla, a3⟩, a4⟩
      dsimp only
      refine wpS_binP hk hkey hl rfl hs hI ?_ ?_ (fun i hi' hlt => ?_) (fun i hi' hle => ?_) h
      · omega
      · omega
      · rcases a4 with a4 | ⟨ho', ho, a4⟩
        · omega
        · exact galB_mono hs (show i ≤ hint - of by omega) ho a4
      · exact fun hb' => a3 (galB_mono hs (show hint - la ≤ i by omega) hi' hb')
end
/-- a merge under way: what is out stands ahead of both rests -/
noncomputable def MI (T O X Y : List Keyed) : Prop := (O ++ X ++ Y).Perm T ∧ (O ++ X).Pairwise kle ∧ (O ++ Y).Pairwise kle
theorem MI.left {T O C X Y : List Keyed} (h : MI T O (C ++ X) Y) (hc : ∀ x ∈ C, ∀ y ∈ Y, kle x y) : MI T (O ++ C) X Y := by
  obtain ⟨h1, h2, h3⟩ := h
  refine ⟨by rwa [List.append_assoc O C X], by rwa [List.append_assoc], ?_⟩
  rw [← List.append_assoc] at h2
  rw [List.pairwise_append] at h2 h3 ⊢
  refine ⟨h2.1, h3.2.1, fun x hx y hy => ?_⟩
  rcases List.mem_append.mp hx with hx | hx
  · exact h3.2.2 x hx y hy
  · exact hc x hx y hy
theorem MI.right {T O C X Y : List Keyed} (h : MI T O X (C ++ Y)) (hc : ∀ x ∈ C, ∀ y ∈ X, kle x y) : MI T (O ++ C) X Y := by
  obtain ⟨h1, h2, h3⟩ := h
  refine ⟨?_, ?_, by rwa [List.append_assoc]⟩
  · refine List.Perm.trans ?_ h1
    have : (O ++ C ++ X).Perm (O ++ X ++ C) := by
      rw [List.append_assoc, List.append_assoc]
      exact List.perm_append_comm.append_left O
    have := this.append_right Y
    rwa [List.append_assoc (O ++ X) C Y] at this
  · rw [← List.append_assoc] at h3
    rw [List.pairwise_append] at h2 h3 ⊢
    refine ⟨h3.1, h2.2.1, fun x hx y hy => ?_⟩
    rcases List.mem_append.mp hx with hx | hx
    · exact h2.2.2 x hx y hy
    · exact hc x hx y hy
theorem MI.sx {T O X Y : List Keyed} (h : MI T O X Y) : X.Pairwise kle := (List.pairwise_append.mp h.2.1).2.1
theorem MI.sy {T O X Y : List Keyed} (h : MI T O X Y) : Y.Pairwise kle := (List.pairwise_append.mp h.2.2).2.1

section
variable {a b : Array Keyed}
theorem ext_drop (a : Array Keyed) (i : Nat) : (a.extract i a.size).toList = a.toList.drop i := by
  rw [Array.toList_extract, List.extract_eq_take_drop]
  exact List.take_of_length_le (by rw [List.length_drop, Array.length_toList]; omega)
theorem ext_mid (a : Array Keyed) (i k : Nat) : (a.extract i (i + k)).toList = (a.toList.drop i).take k := by
  rw [Array.toList_extract, List.extract_eq_take_drop]
  congr 1; omega
theorem drop_cons {a : Array Keyed} {i : Nat} (h : i < a.size) : a.toList.drop i = a[i] :: a.toList.drop (i + 1) := by
  rw [List.drop_eq_getElem_cons (by simpa using h)]
  simp
theorem stands_drop (a : Array Keyed) (i : Nat) : Stands a i (a.toList.drop i) := by
  intro j hj
  rw [List.length_drop, Array.length_toList] at hj
  rw [List.getElem_drop, getElem?_pos a (i + j) (by omega)]
  simp

noncomputable def doneLo (a b out : Array Keyed) (ia ib : Nat) : Array Keyed := out ++ a.extract ia a.size ++ b.extract ib b.size
noncomputable def lastLo (a b out : Array Keyed) (ia ib : Nat) : Array Keyed := out ++ b.extract ib b.size ++ a.extract ia a.size
noncomputable abbrev LoSt := Option (Array Keyed) × Array Keyed × Nat × Nat × Nat × Nat × Nat
noncomputable abbrev LoS1 := Option (Array Keyed) × Array Keyed × Nat × Nat × Nat × Nat
noncomputable abbrev LoS0 := Option (Array Keyed) × Array Keyed × Nat × Nat × Nat
noncomputable def lo0 (a b : Array Keyed) (mg : Nat) (c : LoS1) : StateT SortSt Sem (ForInStep LoS1) := do
  let y ← elem' b c.2.2.2.1
  let x ← elem' a c.2.2.1
  let w? ← lt' y x
  match w? with
  | some bWins =>
    if bWins = true then do
      let y ← elem' b c.2.2.2.1
      if (c.2.2.2.1 + 1 == b.size) = true then pure (.done (some (doneLo a b (c.2.1.push y) c.2.2.1 (c.2.2.2.1 + 1)), c.2.1.push y, c.2.2.1, c.2.2.2.1 + 1, 0, c.2.2.2.2.2 + 1))
      else if c.2.2.2.2.2 + 1 ≥ mg then pure (.done (none, c.2.1.push y, c.2.2.1, c.2.2.2.1 + 1, 0, c.2.2.2.2.2 + 1))
      else pure (.yield (none, c.2.1.push y, c.2.2.1, c.2.2.2.1 + 1, 0, c.2.2.2.2.2 + 1))
    else do
      let x ← elem' a c.2.2.1
      if (c.2.2.1 + 1 + 1 == a.size) = true then pure (.done (some (lastLo a b (c.2.1.push x) (c.2.2.1 + 1) c.2.2.2.1), c.2.1.push x, c.2.2.1 + 1, c.2.2.2.1, c.2.2.2.2.1 + 1, 0))
      else if c.2.2.2.2.1 + 1 ≥ mg then pure (.done (none, c.2.1.push x, c.2.2.1 + 1, c.2.2.2.1, c.2.2.2.2.1 + 1, 0))
      else pure (.yield (none, c.2.1.push x, c.2.2.1 + 1, c.2.2.2.1, c.2.2.2.2.1 + 1, 0))
  | _ => pure (.done (some (doneLo a b c.2.1 c.2.2.1 c.2.2.2.1), c.2.1, c.2.2.1, c.2.2.2.1, c.2.2.2.2.1, c.2.2.2.2.2))
noncomputable def lo3 (a b : Array Keyed) (out : Array Keyed) (ia ib mg ac bc : Nat) : StateT SortSt Sem (ForInStep LoSt) := do
  let x ← elem' a ia
  if (ia + 1 + 1 == a.size) = true then pure (.done (some (lastLo a b (out.push x) (ia + 1) ib), out.push x, ia + 1, ib, mg, ac, bc))
  else if (decide (ac < 7) && decide (bc < 7)) = true then pure (.done (none, out.push x, ia + 1, ib, mg, ac, bc))
  else pure (.yield (none, out.push x, ia + 1, ib, mg, ac, bc))
noncomputable def lo2 (a b : Array Keyed) (out : Array Keyed) (ia ib mg ac bc : Nat) : StateT SortSt Sem (ForInStep LoSt) := do
  let y ← elem' b ib
  if (ib + 1 == b.size) = true then pure (.done (some (doneLo a b (out.push y) ia (ib + 1)), out.push y, ia, ib + 1, mg, ac, bc))
  else do
    let x ← elem' a ia
    let k? ← gallopP true x b (ib + 1) (b.size - (ib + 1)) 0
    match k? with
    | some k =>
      if k > 0 then
        if (ib + 1 + k == b.size) = true then pure (.done (some (doneLo a b (out.push y ++ b.extract (ib + 1) (ib + 1 + k)) ia (ib + 1 + k)), out.push y ++ b.extract (ib + 1) (ib + 1 + k), ia, ib + 1 + k, mg, ac, k))
        else lo3 a b (out.push y ++ b.extract (ib + 1) (ib + 1 + k)) ia (ib + 1 + k) mg ac k
      else lo3 a b (out.push y) ia (ib + 1) mg ac k
    | _ => pure (.done (some (doneLo a b (out.push y) ia (ib + 1)), out.push y, ia, ib + 1, mg, ac, bc))
noncomputable def lo1 (a b : Array Keyed) (out : Array Keyed) (ia ib mg ac bc : Nat) : StateT SortSt Sem (ForInStep LoSt) := do
  setMinGallopP mg
  let y ← elem' b ib
  let k? ← gallopP false y a ia (a.size - ia) 0
  match k? with
  | some k =>
    if k > 0 then
      if (ia + k + 1 == a.size) = true then pure (.done (some (lastLo a b (out ++ a.extract ia (ia + k)) (ia + k) ib), out ++ a.extract ia (ia + k), ia + k, ib, mg, k, bc))
      else if (ia + k == a.size) = true then pure (.done (some (doneLo a b (out ++ a.extract ia (ia + k)) (ia + k) ib), out ++ a.extract ia (ia + k), ia + k, ib, mg, k, bc))
      else lo2 a b (out ++ a.extract ia (ia + k)) (ia + k) ib mg k bc
    else lo2 a b out ia ib mg k bc
  | _ => pure (.done (some (doneLo a b out ia ib), out, ia, ib, mg, ac, bc))
noncomputable def loT (a b : Array Keyed) (tot : Nat) (c : LoS0) : StateT SortSt Sem (ForInStep LoS0) := do
  let s1 ← forIn [0:tot] ((none, c.2.1, c.2.2.1, c.2.2.2.1, 0, 0) : LoS1) fun _ d => lo0 a b c.2.2.2.2 d
  match s1.1 with
  | some r => pure (.done (some r, s1.2.1, s1.2.2.1, s1.2.2.2.1, c.2.2.2.2))
  | none => do
    liftM (rule "list.sort.gallop")
    let s2 ← forIn [0:tot] ((none, s1.2.1, s1.2.2.1, s1.2.2.2.1, c.2.2.2.2 + 1, s1.2.2.2.2.1, s1.2.2.2.2.2) : LoSt) fun _ d =>
      if d.2.2.2.2.1 > 1 then lo1 a b d.2.1 d.2.2.1 d.2.2.2.1 (d.2.2.2.2.1 - 1) d.2.2.2.2.2.1 d.2.2.2.2.2.2 else lo1 a b d.2.1 d.2.2.1 d.2.2.2.1 d.2.2.2.2.1 d.2.2.2.2.2.1 d.2.2.2.2.2.2
    match s2.1 with
    | some r => pure (.done (some r, s2.2.1, s2.2.2.1, s2.2.2.2.1, s2.2.2.2.2.1))
    | none => do
      setMinGallopP (s2.2.2.2.2.1 + 1)
      pure (.yield (none, s2.2.1, s2.2.2.1, s2.2.2.2.1, s2.2.2.2.2.1 + 1))
theorem mergeLoP_eq (a b : Array Keyed) : mergeLoP a b = (do
    liftM (rule "list.sort.merge-lo")
    let y ← elem' b 0
    if (1 == b.size) = true then pure (doneLo a b #[y] 0 1)
    else if (0 + 1 == a.size) = true then pure (lastLo a b #[y] 0 1)
    else do
      let st ← get
      let s ← forIn [0:a.size + b.size] ((none, #[y], 0, 1, gallopOf st) : LoS0) fun _ c => loT a b (a.size + b.size) c
      match s.1 with
      | some r => pure r
      | none => liftM (unsupported "internal:list.sort.merge-bound" : Sem (Array Keyed))) := by kernel_rfl
end
/-- a merge's answer: all of T, in order -/
noncomputable def MFin (T : List Keyed) (r : Array Keyed) : Prop := r.toList.Perm T ∧ r.toList.Pairwise kle
section
variable {a b : Array Keyed} {T : List Keyed}
structure LoJ (a b : Array Keyed) (T : List Keyed) (out : Array Keyed) (ia ib : Nat) : Prop where
  mi : MI T out.toList (a.toList.drop ia) (b.toList.drop ib)
  ha : ia + 1 < a.size
  hb : ib < b.size
theorem LoJ.room {out : Array Keyed} {ia ib : Nat} (j : LoJ a b T out ia ib) : out.size + 3 ≤ T.length := by
  have := j.mi.1.length_eq
  simp only [List.length_append, List.length_drop, Array.length_toList] at this
  have := j.ha
  have := j.hb
  lia
theorem fin_done {out : Array Keyed} {ia ib : Nat} (mi : MI T out.toList (a.toList.drop ia) (b.toList.drop ib)) (h : ia = a.size ∨ ib = b.size) : MFin T (doneLo a b out ia ib) := by
  obtain ⟨h1, h2, h3⟩ := mi
  unfold MFin doneLo
  simp only [Array.toList_append, ext_drop]
  refine ⟨h1, ?_⟩
  rcases h with rfl | rfl
  · rw [List.drop_of_length_le (by simp), List.append_nil]; exact h3
  · rw [List.drop_of_length_le (l := b.toList) (by simp), List.append_nil]; exact h2
theorem fin_last {out : Array Keyed} {ia ib : Nat} (mi : MI T out.toList (a.toList.drop ia) (b.toList.drop ib)) (hlast : ∀ y ∈ b.toList, ∀ x ∈ a.toList.drop (a.size - 1), kle y x) (h : ia + 1 = a.size) : MFin T (lastLo a b out ia ib) := by
  obtain ⟨h1, h2, h3⟩ := mi
  unfold MFin lastLo
  simp only [Array.toList_append, ext_drop]
  refine ⟨?_, ?_⟩
  · refine List.Perm.trans ?_ h1
    rw [List.append_assoc, List.append_assoc]
    exact List.perm_append_comm.append_left _
  · rw [List.pairwise_append] at h2 ⊢
    refine ⟨h3, h2.2.1, fun x hx y hy => ?_⟩
    rcases List.mem_append.mp hx with hx | hx
    · exact h2.2.2 x hx y hy
    · refine hlast x (List.mem_of_mem_drop hx) y ?_
      rw [show a.size - 1 = ia by lia]; exact hy
theorem push_b {out : Array Keyed} {ia ib : Nat} (mi : MI T out.toList (a.toList.drop ia) (b.toList.drop ib)) (hb : ib < b.size) (hx : ∀ x ∈ a.toList.drop ia, kle b[ib] x) : MI T (out.push b[ib]).toList (a.toList.drop ia) (b.toList.drop (ib + 1)) := by
  rw [Array.toList_push]
  refine MI.right (C := [b[ib]]) ?_ fun x hx' y hy => ?_
  · rw [drop_cons hb] at mi; exact mi
  · rw [List.mem_singleton.mp hx']; exact hx y hy
theorem push_a {out : Array Keyed} {ia ib : Nat} (mi : MI T out.toList (a.toList.drop ia) (b.toList.drop ib)) (ha : ia < a.size) (hx : ∀ y ∈ b.toList.drop ib, kle a[ia] y) : MI T (out.push a[ia]).toList (a.toList.drop (ia + 1)) (b.toList.drop ib) := by
  rw [Array.toList_push]
  refine MI.left (C := [a[ia]]) ?_ fun x hx' y hy => ?_
  · rw [drop_cons ha] at mi; exact mi
  · rw [List.mem_singleton.mp hx']; exact hx y hy
theorem head_le {l : List Keyed} {x : Keyed} (h : (x :: l).Pairwise kle) : ∀ y ∈ x :: l, kle x y := by
  intro y hy
  rcases List.mem_cons.mp hy with rfl | hy
  · exact Int.le_refl _
  · exact (List.pairwise_cons.mp h).1 y hy
theorem chunk_a {out : Array Keyed} {ia ib k : Nat} (mi : MI T out.toList (a.toList.drop ia) (b.toList.drop ib)) (hx : ∀ x ∈ (a.toList.drop ia).take k, ∀ y ∈ b.toList.drop ib, kle x y) :
    MI T (out ++ a.extract ia (ia + k)).toList (a.toList.drop (ia + k)) (b.toList.drop ib) := by
  rw [Array.toList_append, ext_mid]
  refine MI.left ?_ hx
  rw [← List.drop_drop, List.take_append_drop]; exact mi
theorem chunk_b {out : Array Keyed} {ia ib k : Nat} (mi : MI T out.toList (a.toList.drop ia) (b.toList.drop ib)) (hx : ∀ x ∈ (b.toList.drop ib).take k, ∀ y ∈ a.toList.drop ia, kle x y) :
    MI T (out ++ b.extract ib (ib + k)).toList (a.toList.drop ia) (b.toList.drop (ib + k)) := by
  rw [Array.toList_append, ext_mid]
  refine MI.right ?_ hx
  rw [← List.drop_drop, List.take_append_drop]; exact mi

noncomputable def LoP1 (a b : Array Keyed) (T : List Keyed) (m : Nat) (c : LoS1) : Prop := (∃ v, c.1 = some v ∧ MFin T v) ∨ (c.1 = none ∧ LoJ a b T c.2.1 c.2.2.1 c.2.2.2.1 ∧ m ≤ c.2.1.size)
noncomputable def LoP2 (a b : Array Keyed) (T : List Keyed) (m : Nat) (c : LoSt) : Prop := (∃ v, c.1 = some v ∧ MFin T v) ∨ (c.1 = none ∧ LoJ a b T c.2.1 c.2.2.1 c.2.2.2.1 ∧ m ≤ c.2.1.size)
noncomputable def stepP {γ : Type} (P N : γ → Prop) : ForInStep γ → Prop
  | .done c => P c
  | .yield c => N c

section
variable {prog : Program} {w : World} {A : Around} {E : Value → Shared → Prop} {s : Shared}
theorem wpS_lo0 {st : SortSt} {mg m : Nat} {out : Array Keyed} {ia ib ac bc : Nat} (hk : kindOf st = oneType') (hIa : ∀ x ∈ a.toList, IsIntK x) (hIb : ∀ x ∈ b.toList, IsIntK x)
    (hlast : ∀ y ∈ b.toList, ∀ x ∈ a.toList.drop (a.size - 1), kle y x) (j : LoJ a b T out ia ib) (hm : m ≤ out.size) :
    wpS (model prog w) A E s (lo0 a b mg (none, out, ia, ib, ac, bc)) (fun r st' => st' = st ∧ stepP (LoP1 a b T (m + 1)) (fun c => c.1 = none ∧ LoJ a b T c.2.1 c.2.2.1 c.2.2.2.1 ∧ m + 1 ≤ c.2.1.size) r) st := by
  have ha := j.ha
  have hb := j.hb
  have ea : a[ia]? = some a[ia] := getElem?_pos a ia (by lia)
  have eb : b[ib]? = some b[ib] := getElem?_pos b ib hb
  unfold lo0
  dsimp only
  refine wpS_bind (wpS_elem eb (wpS_bind (wpS_elem ea (wpS_bind (wpS_lt hk (hIb _ (by simp)) (hIa _ (by simp)) ?_)))))
  dsimp only
  by_cases hlt : kn b[ib] < kn a[ia]
  · simp only [hlt, decide_true, if_true]
    refine wpS_bind (wpS_elem eb ?_)
    have mi := push_b j.mi hb (fun x hx => by
      have hs := j.mi.sx
      rw [drop_cons (by lia)] at hs hx
      have := head_le hs x hx
      exact Int.le_trans (Int.le_of_lt hlt) this)
    by_cases he : ib + 1 = b.size
    · rw [if_pos (by simpa using he)]
      exact wpS_pure ⟨rfl, .inl ⟨_, rfl, fin_done mi (.inr he)⟩⟩
    · rw [if_neg (by simpa using he)]
      have j' : LoJ a b T (out.push b[ib]) ia (ib + 1) := ⟨mi, ha, by lia⟩
      have hs : m + 1 ≤ (out.push b[ib]).size := by rw [Array.size_push]; lia
      split
      · exact wpS_pure ⟨rfl, .inr ⟨rfl, j', hs⟩⟩
      · exact wpS_pure ⟨rfl, rfl, j', hs⟩
  · simp only [hlt, decide_false, Bool.false_eq_true, if_false]
    refine wpS_bind (wpS_elem ea ?_)
    have mi := push_a j.mi (by lia : ia < a.size) (fun y hy => by
      have hs := j.mi.sy
      rw [drop_cons hb] at hs hy
      have := head_le hs y hy
      exact Int.le_trans (Int.not_lt.mp hlt) this)
    by_cases he : ia + 1 + 1 = a.size
    · rw [if_pos (by simpa using he)]
      exact wpS_pure ⟨rfl, .inl ⟨_, rfl, fin_last mi hlast he⟩⟩
    · rw [if_neg (by simpa using he)]
      have j' : LoJ a b T (out.push a[ia]) (ia + 1) ib := ⟨mi, by lia, hb⟩
      have hs : m + 1 ≤ (out.push a[ia]).size := by rw [Array.size_push]; lia
      split
      · exact wpS_pure ⟨rfl, .inr ⟨rfl, j', hs⟩⟩
      · exact wpS_pure ⟨rfl, rfl, j', hs⟩
theorem wpS_lo3 {st : SortSt} {m : Nat} {out : Array Keyed} {ia ib mg ac bc : Nat} (hlast : ∀ y ∈ b.toList, ∀ x ∈ a.toList.drop (a.size - 1), kle y x) (mi : MI T out.toList (a.toList.drop ia) (b.toList.drop ib)) (ha : ia + 1 < a.size) (hb : ib < b.size) (hx : ∀ y ∈ b.toList.drop ib, kle a[ia] y) (hm : m ≤ out.size) :
    wpS (model prog w) A E s (lo3 a b out ia ib mg ac bc) (fun r st' => st' = st ∧ stepP (LoP2 a b T m) (fun c => c.1 = none ∧ LoJ a b T c.2.1 c.2.2.1 c.2.2.2.1 ∧ m ≤ c.2.1.size) r) st := by
  have ea : a[ia]? = some a[ia] := getElem?_pos a ia (by lia)
  unfold lo3
  refine wpS_bind (wpS_elem ea ?_)
  have mi' := push_a mi (by lia : ia < a.size) hx
  by_cases he : ia + 1 + 1 = a.size
  · rw [if_pos (by simpa using he)]
    exact wpS_pure ⟨rfl, .inl ⟨_, rfl, fin_last mi' hlast he⟩⟩
  · rw [if_neg (by simpa using he)]
    have j' : LoJ a b T (out.push a[ia]) (ia + 1) ib := ⟨mi', by lia, hb⟩
    have hs : m ≤ (out.push a[ia]).size := by rw [Array.size_push]; lia
    split
    · exact wpS_pure ⟨rfl, .inr ⟨rfl, j', hs⟩⟩
    · exact wpS_pure ⟨rfl, rfl, j', hs⟩
theorem wpS_lo2 {st : SortSt} {m : Nat} {out : Array Keyed} {ia ib mg ac bc : Nat} (hk : kindOf st = oneType') (hIa : ∀ x ∈ a.toList, IsIntK x) (hIb : ∀ x ∈ b.toList, IsIntK x)
    (hlast : ∀ y ∈ b.toList, ∀ x ∈ a.toList.drop (a.size - 1), kle y x) (mi : MI T out.toList (a.toList.drop ia) (b.toList.drop ib)) (ha : ia + 1 < a.size) (hb : ib < b.size) (hx : ∀ x ∈ a.toList.drop ia, kle b[ib] x) (hm : m ≤ out.size) :
    wpS (model prog w) A E s (lo2 a b out ia ib mg ac bc) (fun r st' => st' = st ∧ stepP (LoP2 a b T m) (fun c => c.1 = none ∧ LoJ a b T c.2.1 c.2.2.1 c.2.2.2.1 ∧ m ≤ c.2.1.size) r) st := by
  have ea : a[ia]? = some a[ia] := getElem?_pos a ia (by lia)
  have eb : b[ib]? = some b[ib] := getElem?_pos b ib hb
  unfold lo2
  refine wpS_bind (wpS_elem eb ?_)
  have mi' := push_b mi hb hx
  have hs : m ≤ (out.push b[ib]).size := by rw [Array.size_push]; lia
  by_cases he : ib + 1 = b.size
  · rw [if_pos (by simpa using he)]
    exact wpS_pure ⟨rfl, .inl ⟨_, rfl, fin_done mi' (.inr he)⟩⟩
  · rw [if_neg (by simpa using he)]
    refine wpS_bind (wpS_elem ea (wpS_bind (wpS_gallop hk (hIa _ (by simp)) (stands_drop b (ib + 1)) (by simp) mi'.sy (fun x hx => hIb x (List.mem_of_mem_drop hx)) (by lia) fun k hg => ?_)))
    obtain ⟨g1, g2, g3⟩ := hg
    simp only [List.length_drop, Array.length_toList] at g1
    have hsa := mi'.sx
    rw [drop_cons (by lia)] at hsa
    dsimp only
    by_cases hk0 : k > 0
    · rw [if_pos hk0]
      have mi2 := chunk_b (k := k) mi' (fun x hx y hy => by
        have q := g2 x hx
        simp only [galB, if_true] at q
        rw [drop_cons (by lia)] at hy
        exact Int.le_trans (Int.le_of_lt q) (head_le hsa y hy))
      have hs2 : m ≤ (out.push b[ib] ++ b.extract (ib + 1) (ib + 1 + k)).size := by rw [Array.size_append]; lia
      by_cases he2 : ib + 1 + k = b.size
      · rw [if_pos (by simpa using he2)]
        exact wpS_pure ⟨rfl, .inl ⟨_, rfl, fin_done mi2 (.inr he2)⟩⟩
      · rw [if_neg (by simpa using he2)]
        refine wpS_lo3 hlast mi2 ha (by lia) (fun y hy => ?_) hs2
        have q := g3 y (by rw [List.drop_drop]; exact hy)
        simp only [galB, if_true] at q
        exact Int.not_lt.mp q
    · rw [if_neg hk0]
      have hk0' : k = 0 := by lia
      subst hk0'
      refine wpS_lo3 hlast mi' ha (by lia) (fun y hy => ?_) hs
      have q := g3 y (by rw [List.drop_zero]; exact hy)
      simp only [galB, if_true] at q
      exact Int.not_lt.mp q
theorem wpS_lo1 {st : SortSt} {m : Nat} {out : Array Keyed} {ia ib mg ac bc : Nat} (hk : kindOf st = oneType') (hIa : ∀ x ∈ a.toList, IsIntK x) (hIb : ∀ x ∈ b.toList, IsIntK x)
    (hlast : ∀ y ∈ b.toList, ∀ x ∈ a.toList.drop (a.size - 1), kle y x) (j : LoJ a b T out ia ib) (hm : m ≤ out.size) :
    wpS (model prog w) A E s (lo1 a b out ia ib mg ac bc) (fun r st' => st' = setGal st mg ∧ stepP (LoP2 a b T m) (fun c => c.1 = none ∧ LoJ a b T c.2.1 c.2.2.1 c.2.2.2.1 ∧ m ≤ c.2.1.size) r) st := by
  have ha := j.ha
  have hb := j.hb
  have mi := j.mi
  have eb : b[ib]? = some b[ib] := getElem?_pos b ib hb
  unfold lo1
  rw [setMinGallopP_eq]
  refine wpS_bind (wpS_modify ?_)
  have hk' : kindOf (setGal st mg) = oneType' := hk
  refine wpS_bind (wpS_elem eb (wpS_bind (wpS_gallop hk' (hIb _ (by simp)) (stands_drop a ia) (by simp) mi.sx (fun x hx => hIa x (List.mem_of_mem_drop hx)) (by lia) fun k hg => ?_)))
  obtain ⟨g1, g2, g3⟩ := hg
  simp only [List.length_drop, Array.length_toList] at g1
  have hsb := mi.sy
  rw [drop_cons hb] at hsb
  dsimp only
  by_cases hk0 : k > 0
  · rw [if_pos hk0]
    have mi2 := chunk_a (k := k) mi (fun x hx y hy => by
      have q := g2 x hx
      simp only [galB, Bool.false_eq_true, if_false] at q
      rw [drop_cons hb] at hy
      exact Int.le_trans q (head_le hsb y hy))
    have hs2 : m ≤ (out ++ a.extract ia (ia + k)).size := by rw [Array.size_append]; lia
    by_cases he1 : ia + k + 1 = a.size
    · rw [if_pos (by simpa using he1)]
      exact wpS_pure ⟨rfl, .inl ⟨_, rfl, fin_last mi2 hlast he1⟩⟩
    · rw [if_neg (by simpa using he1)]
      by_cases he2 : ia + k = a.size
      · rw [if_pos (by simpa using he2)]
        exact wpS_pure ⟨rfl, .inl ⟨_, rfl, fin_done mi2 (.inl he2)⟩⟩
      · rw [if_neg (by simpa using he2)]
        refine wpS_lo2 hk' hIa hIb hlast mi2 (by lia) hb (fun x hx => ?_) hs2
        have q := g3 x (by rw [List.drop_drop]; exact hx)
        simp only [galB, Bool.false_eq_true, if_false] at q
        exact Int.le_of_lt (Int.not_le.mp q)
  · rw [if_neg hk0]
    have hk0' : k = 0 := by lia
    subst hk0'
    refine wpS_lo2 hk' hIa hIb hlast mi ha hb (fun x hx => ?_) hm
    have q := g3 x (by rw [List.drop_zero]; exact hx)
    simp only [galB, Bool.false_eq_true, if_false] at q
    exact Int.le_of_lt (Int.not_le.mp q)
end
end
section
variable {prog : Program} {w : World} {A : Around} {E : Value → Shared → Prop} {s : Shared} {a b : Array Keyed} {T : List Keyed}
/-- but for the gallop's number the state is as it was -/
noncomputable def StOk (st st' : SortSt) : Prop := ∃ g, st' = setGal st g
theorem StOk.refl (st : SortSt) : StOk st st := ⟨gallopOf st, rfl⟩
theorem StOk.trans {s1 s2 s3 : SortSt} (h : StOk s1 s2) (h' : StOk s2 s3) : StOk s1 s3 := by
  obtain ⟨g, rfl⟩ := h
  obtain ⟨g', rfl⟩ := h'
  exact ⟨g', rfl⟩
theorem StOk.kind {s1 s2 : SortSt} (h : StOk s1 s2) (hk : kindOf s1 = oneType') : kindOf s2 = oneType' := by
  obtain ⟨g, rfl⟩ := h
  exact hk
noncomputable def LoP0 (a b : Array Keyed) (T : List Keyed) (m : Nat) (c : LoS0) : Prop := (∃ v, c.1 = some v ∧ MFin T v) ∨ (c.1 = none ∧ LoJ a b T c.2.1 c.2.2.1 c.2.2.2.1 ∧ m ≤ c.2.1.size)
theorem wpS_loT {st : SortSt} {tot m : Nat} {c : LoS0} (hk : kindOf st = oneType') (hIa : ∀ x ∈ a.toList, IsIntK x) (hIb : ∀ x ∈ b.toList, IsIntK x)
    (hlast : ∀ y ∈ b.toList, ∀ x ∈ a.toList.drop (a.size - 1), kle y x) (ht : 0 < tot) (j : LoJ a b T c.2.1 c.2.2.1 c.2.2.2.1) (hm : m ≤ c.2.1.size) :
    wpS (model prog w) A E s (loT a b tot c) (fun r st' => StOk st st' ∧ stepP (fun c => ∃ v, c.1 = some v ∧ MFin T v) (fun c => c.1 = none ∧ LoJ a b T c.2.1 c.2.2.1 c.2.2.2.1 ∧ m + 1 ≤ c.2.1.size) r) st := by
  unfold loT
  refine wpS_bind (wpS_mono (wpS_forRange (I := fun x d st' => st' = st ∧ d.1 = none ∧ LoJ a b T d.2.1 d.2.2.1 d.2.2.2.1 ∧ m + x ≤ d.2.1.size)
    (Q := fun d st' => st' = st ∧ LoP1 a b T (m + 1) d) ?step ?fin ?init) ?post)
  case init => exact ⟨rfl, rfl, j, hm⟩
  case fin =>
    rintro d st' ⟨rfl, h1, h2, h3⟩
    exact ⟨rfl, .inr ⟨h1, h2, by lia⟩⟩
  case step =>
    rintro x ⟨r, out, ia, ib, ac, bc⟩ st' _ hx ⟨rfl, h1, h2, h3⟩
    dsimp only at h1 h2 h3
    subst h1
    refine wpS_mono (wpS_lo0 hk hIa hIb hlast h2 h3) ?_
    rintro (d | d) st' ⟨rfl, hd⟩
    · refine ⟨rfl, ?_⟩
      rcases hd with hd | ⟨d1, d2, d3⟩
      · exact .inl hd
      · exact .inr ⟨d1, d2, by lia⟩
    · obtain ⟨d1, d2, d3⟩ := hd
      exact ⟨rfl, d1, d2, by lia⟩
  case post =>
    rintro ⟨r, out, ia, ib, ac, bc⟩ st' ⟨rfl, hd⟩
    rcases hd with ⟨v, hv, hf⟩ | ⟨h1, h2, h3⟩
    · dsimp only at hv
      subst hv
      exact wpS_pure ⟨StOk.refl _, v, rfl, hf⟩
    · dsimp only at h1 h2 h3
      subst h1
      dsimp only
      refine wpS_bind (wpS_lift (wpAny_rule ⟨rfl, ?_⟩))
      refine wpS_bind (wpS_mono (wpS_forRange (I := fun x d st2 => StOk st' st2 ∧ d.1 = none ∧ LoJ a b T d.2.1 d.2.2.1 d.2.2.2.1 ∧ m + 1 ≤ d.2.1.size)
        (Q := fun d st2 => StOk st' st2 ∧ LoP2 a b T (m + 1) d) ?step2 ?fin2 ?init2) ?post2)
      case init2 => exact ⟨StOk.refl _, rfl, h2, h3⟩
      case fin2 =>
        rintro d st2 ⟨hst, d1, d2, d3⟩
        exact ⟨hst, .inr ⟨d1, d2, d3⟩⟩
      case step2 =>
        rintro x ⟨r, out2, ia2, ib2, mg2, ac2, bc2⟩ st2 _ hx ⟨hst, d1, d2, d3⟩
        dsimp only at d1 d2 d3
        subst d1
        have key : ∀ g, wpS (model prog w) A E s (lo1 a b out2 ia2 ib2 g ac2 bc2) (fun r st3 => match r with | .done d => StOk st' st3 ∧ LoP2 a b T (m + 1) d | .yield d => StOk st' st3 ∧ d.1 = none ∧ LoJ a b T d.2.1 d.2.2.1 d.2.2.2.1 ∧ m + 1 ≤ d.2.1.size) st2 := by
          intro g
          refine wpS_mono (wpS_lo1 (hst.kind hk) hIa hIb hlast d2 d3) ?_
          rintro (d | d) st3 ⟨rfl, hd⟩
          · exact ⟨hst.trans ⟨g, rfl⟩, hd⟩
          · exact ⟨hst.trans ⟨g, rfl⟩, hd⟩
        dsimp only
        split
        · exact wpS_mono (key _) (fun r st3 h => by cases r <;> exact h)
        · exact wpS_mono (key _) (fun r st3 h => by cases r <;> exact h)
      case post2 =>
        rintro ⟨r, out2, ia2, ib2, mg2, ac2, bc2⟩ st2 ⟨hst, hd⟩
        rcases hd with ⟨v, hv, hf⟩ | ⟨d1, d2, d3⟩
        · dsimp only at hv
          subst hv
          exact wpS_pure ⟨hst, v, rfl, hf⟩
        · dsimp only at d1 d2 d3
          subst d1
          dsimp only
          rw [setMinGallopP_eq]
          exact wpS_bind (wpS_modify (wpS_pure ⟨hst.trans ⟨_, rfl⟩, rfl, d2, d3⟩))
theorem wpS_mergeLo {st : SortSt} {Q : Array Keyed → SortSt → Prop} (hk : kindOf st = oneType') (hIa : ∀ x ∈ a.toList, IsIntK x) (hIb : ∀ x ∈ b.toList, IsIntK x)
    (hsa : a.toList.Pairwise kle) (hsb : b.toList.Pairwise kle) (ha : 0 < a.size) (hb : 0 < b.size) (hfirst : ∀ x ∈ a.toList, kle b[0] x)
    (hlast : ∀ y ∈ b.toList, ∀ x ∈ a.toList.drop (a.size - 1), kle y x)
    (h : ∀ r st', StOk st st' → MFin (a.toList ++ b.toList) r → Q r st') : wpS (model prog w) A E s (mergeLoP a b) Q st := by
  rw [mergeLoP_eq]
  refine wpS_bind (wpS_lift (wpAny_rule ⟨rfl, ?_⟩))
  have eb : b[0]? = some b[0] := getElem?_pos b 0 hb
  refine wpS_bind (wpS_elem eb ?_)
  have mi0 : MI (a.toList ++ b.toList) (#[] : Array Keyed).toList (a.toList.drop 0) (b.toList.drop 0) := ⟨by simp, by simpa using hsa, by simpa using hsb⟩
  have mi := push_b mi0 hb (fun x hx => hfirst x (by simpa using hx))
  by_cases he : 1 = b.size
  · rw [if_pos (by simpa using he)]
    exact wpS_pure (h _ _ (StOk.refl _) (fin_done mi (.inr (by lia))))
  · rw [if_neg (by simpa using he)]
    by_cases he2 : 0 + 1 = a.size
    · rw [if_pos (by simpa using he2)]
      exact wpS_pure (h _ _ (StOk.refl _) (fin_last mi hlast he2))
    · rw [if_neg (by simpa using he2)]
      refine wpS_bind (wpS_get ?_)
      refine wpS_bind (wpS_mono (wpS_forRange (I := fun x c st' => StOk st st' ∧ c.1 = none ∧ LoJ a b (a.toList ++ b.toList) c.2.1 c.2.2.1 c.2.2.2.1 ∧ 1 + x ≤ c.2.1.size)
        (Q := fun c st' => StOk st st' ∧ ∃ v, c.1 = some v ∧ MFin (a.toList ++ b.toList) v) ?step ?fin ?init) ?post)
      case init => exact ⟨StOk.refl _, rfl, ⟨mi, show 0 + 1 < a.size by lia, show 1 < b.size by lia⟩, by simp⟩
      case fin =>
        rintro c st' ⟨_, _, j, hx⟩
        have := j.room
        simp only [List.length_append, Array.length_toList] at this
        lia
      case step =>
        rintro x c st' _ hx ⟨hst, h1, j, hs⟩
        refine wpS_mono (wpS_loT (hst.kind hk) hIa hIb hlast (by lia) j hs) ?_
        rintro (d | d) st2 ⟨hst2, hd⟩
        · exact ⟨hst.trans hst2, hd⟩
        · exact ⟨hst.trans hst2, hd.1, hd.2.1, by have := hd.2.2; lia⟩
      case post =>
        rintro c st' ⟨hst, v, hv, hf⟩
        rw [hv]
        exact wpS_pure (h v st' hst hf)
end
noncomputable def MH (T X Y O : List Keyed) : Prop := (X ++ Y ++ O).Perm T ∧ (X ++ O).Pairwise kle ∧ (Y ++ O).Pairwise kle
theorem MH.left {T O C X Y : List Keyed} (h : MH T (X ++ C) Y O) (hc : ∀ x ∈ C, ∀ y ∈ Y, kle y x) : MH T X Y (C ++ O) := by
  obtain ⟨h1, h2, h3⟩ := h
  refine ⟨?_, by rwa [List.append_assoc] at h2, ?_⟩
  · refine List.Perm.trans ?_ h1
    rw [List.append_assoc, List.append_assoc, List.append_assoc]
    refine List.Perm.append_left X ?_
    rw [← List.append_assoc, ← List.append_assoc]
    exact List.perm_append_comm.append_right O
  · rw [List.append_assoc, List.pairwise_append] at h2
    rw [List.pairwise_append] at h3 ⊢
    refine ⟨h3.1, h2.2.1, fun y hy x hx => ?_⟩
    rcases List.mem_append.mp hx with hx | hx
    · exact hc x hx y hy
    · exact h3.2.2 y hy x hx
theorem MH.right {T O C X Y : List Keyed} (h : MH T X (Y ++ C) O) (hc : ∀ x ∈ C, ∀ y ∈ X, kle y x) : MH T X Y (C ++ O) := by
  obtain ⟨h1, h2, h3⟩ := h
  refine ⟨by simpa only [List.append_assoc] using h1, ?_, by rwa [List.append_assoc] at h3⟩
  rw [List.append_assoc, List.pairwise_append] at h3
  rw [List.pairwise_append] at h2 ⊢
  refine ⟨h2.1, h3.2.1, fun y hy x hx => ?_⟩
  rcases List.mem_append.mp hx with hx | hx
  · exact hc x hx y hy
  · exact h2.2.2 y hy x hx
theorem MH.sx {T O X Y : List Keyed} (h : MH T X Y O) : X.Pairwise kle := (List.pairwise_append.mp h.2.1).1
theorem MH.sy {T O X Y : List Keyed} (h : MH T X Y O) : Y.Pairwise kle := (List.pairwise_append.mp h.2.2).1
theorem ext_take (a : Array Keyed) (k : Nat) : (a.extract 0 k).toList = a.toList.take k := by
  rw [Array.toList_extract, List.extract_eq_take_drop]; simp
theorem ext_cut (a : Array Keyed) (i k : Nat) : (a.extract i k).toList = (a.toList.take k).drop i := by
  rw [Array.toList_extract, List.extract_eq_take_drop, List.drop_take]
theorem take_snoc {a : Array Keyed} {n : Nat} (h0 : 0 < n) (h : n ≤ a.size) : a.toList.take n = a.toList.take (n - 1) ++ [a[n - 1]'(by omega)] := by
  obtain ⟨m, rfl⟩ : ∃ m, n = m + 1 := ⟨n - 1, by omega⟩
  rw [List.take_succ_eq_append_getElem (by rw [Array.length_toList]; omega)]
  simp
theorem stands_take (a : Array Keyed) (n : Nat) : Stands a 0 (a.toList.take n) := by
  intro j hj
  rw [List.length_take, Array.length_toList] at hj
  rw [List.getElem_take, Nat.zero_add, getElem?_pos a j (by omega)]
  simp
theorem last_le {l : List Keyed} {x : Keyed} (h : (l ++ [x]).Pairwise kle) : ∀ y ∈ l ++ [x], kle y x := by
  intro y hy
  rcases List.mem_append.mp hy with hy | hy
  · exact (List.pairwise_append.mp h).2.2 y hy x (List.mem_singleton.mpr rfl)
  · rw [List.mem_singleton.mp hy]; exact Int.le_refl _

noncomputable def doneHi (a b out : Array Keyed) (na nb : Nat) : Array Keyed := a.extract 0 na ++ b.extract 0 nb ++ out.reverse
noncomputable def firstHi (a b out : Array Keyed) (na nb : Nat) : Array Keyed := b.extract 0 nb ++ a.extract 0 na ++ out.reverse
noncomputable abbrev HiSt := Option (Array Keyed) × Nat × Nat × Array Keyed × Nat × Nat × Nat
noncomputable abbrev HiS1 := Option (Array Keyed) × Nat × Nat × Array Keyed × Nat × Nat
noncomputable abbrev HiS0 := Option (Array Keyed) × Nat × Nat × Array Keyed × Nat
noncomputable def hi0 (a b : Array Keyed) (mg : Nat) (c : HiS1) : StateT SortSt Sem (ForInStep HiS1) := do
  let y ← elem' b (c.2.2.1 - 1)
  let x ← elem' a (c.2.1 - 1)
  let w? ← lt' y x
  match w? with
  | some aWins =>
    if aWins = true then do
      let x ← elem' a (c.2.1 - 1)
      if (c.2.1 - 1 == 0) = true then pure (.done (some (doneHi a b (c.2.2.2.1.push x) (c.2.1 - 1) c.2.2.1), c.2.1 - 1, c.2.2.1, c.2.2.2.1.push x, c.2.2.2.2.1 + 1, 0))
      else if c.2.2.2.2.1 + 1 ≥ mg then pure (.done (none, c.2.1 - 1, c.2.2.1, c.2.2.2.1.push x, c.2.2.2.2.1 + 1, 0))
      else pure (.yield (none, c.2.1 - 1, c.2.2.1, c.2.2.2.1.push x, c.2.2.2.2.1 + 1, 0))
    else do
      let y ← elem' b (c.2.2.1 - 1)
      if (c.2.2.1 - 1 == 1) = true then pure (.done (some (firstHi a b (c.2.2.2.1.push y) c.2.1 (c.2.2.1 - 1)), c.2.1, c.2.2.1 - 1, c.2.2.2.1.push y, 0, c.2.2.2.2.2 + 1))
      else if c.2.2.2.2.2 + 1 ≥ mg then pure (.done (none, c.2.1, c.2.2.1 - 1, c.2.2.2.1.push y, 0, c.2.2.2.2.2 + 1))
      else pure (.yield (none, c.2.1, c.2.2.1 - 1, c.2.2.2.1.push y, 0, c.2.2.2.2.2 + 1))
  | _ => pure (.done (some (doneHi a b c.2.2.2.1 c.2.1 c.2.2.1), c.2.1, c.2.2.1, c.2.2.2.1, c.2.2.2.2.1, c.2.2.2.2.2))
noncomputable def hi3 (a b : Array Keyed) (na nb : Nat) (out : Array Keyed) (mg ac bc : Nat) : StateT SortSt Sem (ForInStep HiSt) := do
  let x ← elem' a (na - 1)
  if (na - 1 == 0) = true then pure (.done (some (doneHi a b (out.push x) (na - 1) nb), na - 1, nb, out.push x, mg, ac, bc))
  else if (decide (ac < 7) && decide (bc < 7)) = true then pure (.done (none, na - 1, nb, out.push x, mg, ac, bc))
  else pure (.yield (none, na - 1, nb, out.push x, mg, ac, bc))
noncomputable def hi2 (a b : Array Keyed) (na nb : Nat) (out : Array Keyed) (mg ac bc : Nat) : StateT SortSt Sem (ForInStep HiSt) := do
  let y ← elem' b (nb - 1)
  if (nb - 1 == 1) = true then pure (.done (some (firstHi a b (out.push y) na (nb - 1)), na, nb - 1, out.push y, mg, ac, bc))
  else do
    let x ← elem' a (na - 1)
    let k? ← gallopP true x b 0 (nb - 1) (nb - 1 - 1)
    match k? with
    | some r =>
      if nb - 1 - r > 0 then
        if (r == 1) = true then pure (.done (some (firstHi a b (out.push y ++ (b.extract r (nb - 1)).reverse) na r), na, r, out.push y ++ (b.extract r (nb - 1)).reverse, mg, ac, nb - 1 - r))
        else if (r == 0) = true then pure (.done (some (doneHi a b (out.push y ++ (b.extract r (nb - 1)).reverse) na r), na, r, out.push y ++ (b.extract r (nb - 1)).reverse, mg, ac, nb - 1 - r))
        else hi3 a b na r (out.push y ++ (b.extract r (nb - 1)).reverse) mg ac (nb - 1 - r)
      else hi3 a b na (nb - 1) (out.push y) mg ac (nb - 1 - r)
    | _ => pure (.done (some (doneHi a b (out.push y) na (nb - 1)), na, nb - 1, out.push y, mg, ac, bc))
noncomputable def hi1 (a b : Array Keyed) (na nb : Nat) (out : Array Keyed) (mg ac bc : Nat) : StateT SortSt Sem (ForInStep HiSt) := do
  setMinGallopP mg
  let y ← elem' b (nb - 1)
  let k? ← gallopP false y a 0 na (na - 1)
  match k? with
  | some r =>
    if na - r > 0 then
      if (r == 0) = true then pure (.done (some (doneHi a b (out ++ (a.extract r na).reverse) r nb), r, nb, out ++ (a.extract r na).reverse, mg, na - r, bc))
      else hi2 a b r nb (out ++ (a.extract r na).reverse) mg (na - r) bc
    else hi2 a b na nb out mg (na - r) bc
  | _ => pure (.done (some (doneHi a b out na nb), na, nb, out, mg, ac, bc))
noncomputable def hiT (a b : Array Keyed) (tot : Nat) (c : HiS0) : StateT SortSt Sem (ForInStep HiS0) := do
  let s1 ← forIn [0:tot] ((none, c.2.1, c.2.2.1, c.2.2.2.1, 0, 0) : HiS1) fun _ d => hi0 a b c.2.2.2.2 d
  match s1.1 with
  | some r => pure (.done (some r, s1.2.1, s1.2.2.1, s1.2.2.2.1, c.2.2.2.2))
  | none => do
    liftM (rule "list.sort.gallop")
    let s2 ← forIn [0:tot] ((none, s1.2.1, s1.2.2.1, s1.2.2.2.1, c.2.2.2.2 + 1, s1.2.2.2.2.1, s1.2.2.2.2.2) : HiSt) fun _ d =>
      if d.2.2.2.2.1 > 1 then hi1 a b d.2.1 d.2.2.1 d.2.2.2.1 (d.2.2.2.2.1 - 1) d.2.2.2.2.2.1 d.2.2.2.2.2.2 else hi1 a b d.2.1 d.2.2.1 d.2.2.2.1 d.2.2.2.2.1 d.2.2.2.2.2.1 d.2.2.2.2.2.2
    match s2.1 with
    | some r => pure (.done (some r, s2.2.1, s2.2.2.1, s2.2.2.2.1, s2.2.2.2.2.1))
    | none => do
      setMinGallopP (s2.2.2.2.2.1 + 1)
      pure (.yield (none, s2.2.1, s2.2.2.1, s2.2.2.2.1, s2.2.2.2.2.1 + 1))
theorem mergeHiP_eq (a b : Array Keyed) : mergeHiP a b = (do
    liftM (rule "list.sort.merge-hi")
    let x ← elem' a (a.size - 1)
    if (a.size - 1 == 0) = true then pure (doneHi a b #[x] (a.size - 1) b.size)
    else if (b.size == 1) = true then pure (firstHi a b #[x] (a.size - 1) b.size)
    else do
      let st ← get
      let s ← forIn [0:a.size + b.size] ((none, a.size - 1, b.size, #[x], gallopOf st) : HiS0) fun _ c => hiT a b (a.size + b.size) c
      match s.1 with
      | some r => pure r
      | none => liftM (unsupported "internal:list.sort.merge-bound" : Sem (Array Keyed))) := by kernel_rfl
section
variable {a b : Array Keyed} {T : List Keyed}
structure HiJ (a b : Array Keyed) (T : List Keyed) (na nb : Nat) (out : Array Keyed) : Prop where
  mi : MH T (a.toList.take na) (b.toList.take nb) out.toList.reverse
  ha : 0 < na
  ha' : na ≤ a.size
  hb : 1 < nb
  hb' : nb ≤ b.size
theorem HiJ.room {na nb : Nat} {out : Array Keyed} (j : HiJ a b T na nb out) : out.size + 3 ≤ T.length := by
  have := j.mi.1.length_eq
  simp only [List.length_append, List.length_take, List.length_reverse, Array.length_toList] at this
  have := j.ha
  have := j.hb
  have := j.ha'
  have := j.hb'
  lia
theorem fin_doneHi {na nb : Nat} {out : Array Keyed} (mi : MH T (a.toList.take na) (b.toList.take nb) out.toList.reverse) (h : na = 0 ∨ nb = 0) : MFin T (doneHi a b out na nb) := by
  obtain ⟨h1, h2, h3⟩ := mi
  unfold MFin doneHi
  simp only [Array.toList_append, ext_take, Array.toList_reverse]
  refine ⟨h1, ?_⟩
  rcases h with rfl | rfl
  · simpa using h3
  · simpa using h2
theorem fin_first {na nb : Nat} {out : Array Keyed} (mi : MH T (a.toList.take na) (b.toList.take nb) out.toList.reverse) (hfirst : ∀ y ∈ b.toList.take 1, ∀ x ∈ a.toList, kle y x) (h : nb = 1) : MFin T (firstHi a b out na nb) := by
  subst h
  obtain ⟨h1, h2, h3⟩ := mi
  unfold MFin firstHi
  simp only [Array.toList_append, ext_take, Array.toList_reverse]
  refine ⟨?_, ?_⟩
  · refine List.Perm.trans ?_ h1
    exact List.perm_append_comm.append_right _
  · rw [List.append_assoc, List.pairwise_append]
    refine ⟨(List.pairwise_append.mp h3).1, h2, fun y hy x hx => ?_⟩
    rcases List.mem_append.mp hx with hx | hx
    · exact hfirst y hy x (List.mem_of_mem_take hx)
    · exact (List.pairwise_append.mp h3).2.2 y hy x hx
theorem pushH_a {na nb : Nat} {out : Array Keyed} (mi : MH T (a.toList.take na) (b.toList.take nb) out.toList.reverse) (h0 : 0 < na) (h : na ≤ a.size) (hx : ∀ y ∈ b.toList.take nb, kle y (a[na - 1]'(by omega))) :
    MH T (a.toList.take (na - 1)) (b.toList.take nb) (out.push (a[na - 1]'(by omega))).toList.reverse := by
  rw [Array.toList_push, List.reverse_append]
  refine MH.left (C := [a[na - 1]'(by omega)]) ?_ fun x hx' y hy => ?_
  · rw [take_snoc h0 h] at mi; exact mi
  · rw [List.mem_singleton.mp hx']; exact hx y hy
theorem pushH_b {na nb : Nat} {out : Array Keyed} (mi : MH T (a.toList.take na) (b.toList.take nb) out.toList.reverse) (h0 : 0 < nb) (h : nb ≤ b.size) (hx : ∀ x ∈ a.toList.take na, kle x (b[nb - 1]'(by lia))) :
    MH T (a.toList.take na) (b.toList.take (nb - 1)) (out.push (b[nb - 1]'(by lia))).toList.reverse := by
  rw [Array.toList_push, List.reverse_append]
  refine MH.right (C := [b[nb - 1]'(by lia)]) ?_ fun x hx' y hy => ?_
  · rw [take_snoc h0 h] at mi; exact mi
  · rw [List.mem_singleton.mp hx']; exact hx y hy
theorem chunkH_a {na nb r : Nat} {out : Array Keyed} (mi : MH T (a.toList.take na) (b.toList.take nb) out.toList.reverse) (hr : r ≤ na) (hx : ∀ x ∈ (a.toList.take na).drop r, ∀ y ∈ b.toList.take nb, kle y x) :
    MH T (a.toList.take r) (b.toList.take nb) (out ++ (a.extract r na).reverse).toList.reverse := by
  rw [Array.toList_append, Array.toList_reverse, ext_cut, List.reverse_append, List.reverse_reverse]
  refine MH.left ?_ hx
  have e : a.toList.take r ++ (a.toList.take na).drop r = a.toList.take na := by
    have := List.take_append_drop r (a.toList.take na)
    rwa [List.take_take, Nat.min_eq_left hr] at this
  rw [e]; exact mi
theorem chunkH_b {na nb r : Nat} {out : Array Keyed} (mi : MH T (a.toList.take na) (b.toList.take nb) out.toList.reverse) (hr : r ≤ nb) (hx : ∀ x ∈ (b.toList.take nb).drop r, ∀ y ∈ a.toList.take na, kle y x) :
    MH T (a.toList.take na) (b.toList.take r) (out ++ (b.extract r nb).reverse).toList.reverse := by
  rw [Array.toList_append, Array.toList_reverse, ext_cut, List.reverse_append, List.reverse_reverse]
  refine MH.right ?_ hx
  have e : b.toList.take r ++ (b.toList.take nb).drop r = b.toList.take nb := by
    have := List.take_append_drop r (b.toList.take nb)
    rwa [List.take_take, Nat.min_eq_left hr] at this
  rw [e]; exact mi
theorem galAt_take {left : Bool} {key : Keyed} {l : List Keyed} {n r : Nat} (hn : n ≤ l.length) (h : GalAt left key (l.take n) r) : r ≤ n ∧ (∀ x ∈ l.take r, galB left key x) ∧ ∀ x ∈ (l.take n).drop r, ¬ galB left key x := by
  obtain ⟨h1, h2, h3⟩ := h
  rw [List.length_take, Nat.min_eq_left hn] at h1
  rw [List.take_take, Nat.min_eq_left h1] at h2
  exact ⟨h1, h2, h3⟩

noncomputable def HiP1 (a b : Array Keyed) (T : List Keyed) (m : Nat) (c : HiS1) : Prop := (∃ v, c.1 = some v ∧ MFin T v) ∨ (c.1 = none ∧ HiJ a b T c.2.1 c.2.2.1 c.2.2.2.1 ∧ m ≤ c.2.2.2.1.size)
noncomputable def HiP2 (a b : Array Keyed) (T : List Keyed) (m : Nat) (c : HiSt) : Prop := (∃ v, c.1 = some v ∧ MFin T v) ∨ (c.1 = none ∧ HiJ a b T c.2.1 c.2.2.1 c.2.2.2.1 ∧ m ≤ c.2.2.2.1.size)

section
variable {prog : Program} {w : World} {A : Around} {E : Value → Shared → Prop} {s : Shared}
theorem wpS_hi0 {st : SortSt} {mg m : Nat} {out : Array Keyed} {na nb ac bc : Nat} (hk : kindOf st = oneType') (hIa : ∀ x ∈ a.toList, IsIntK x) (hIb : ∀ x ∈ b.toList, IsIntK x)
    (hfirst : ∀ y ∈ b.toList.take 1, ∀ x ∈ a.toList, kle y x) (j : HiJ a b T na nb out) (hm : m ≤ out.size) :
    wpS (model prog w) A E s (hi0 a b mg (none, na, nb, out, ac, bc)) (fun r st' => st' = st ∧ stepP (HiP1 a b T (m + 1)) (fun c => c.1 = none ∧ HiJ a b T c.2.1 c.2.2.1 c.2.2.2.1 ∧ m + 1 ≤ c.2.2.2.1.size) r) st := by
  have ha := j.ha
  have hb := j.hb
  have ha' := j.ha'
  have hb' := j.hb'
  have la : na - 1 < a.size := by lia
  have lb : nb - 1 < b.size := by lia
  have ea : a[na - 1]? = some a[na - 1] := getElem?_pos a (na - 1) la
  have eb : b[nb - 1]? = some b[nb - 1] := getElem?_pos b (nb - 1) lb
  unfold hi0
  dsimp only
  refine wpS_bind (wpS_elem eb (wpS_bind (wpS_elem ea (wpS_bind (wpS_lt hk (hIb _ (by simp)) (hIa _ (by simp)) ?_)))))
  dsimp only
  have hsx := j.mi.sx
  have hsy := j.mi.sy
  by_cases hlt : kn b[nb - 1] < kn a[na - 1]
  · simp only [hlt, decide_true, if_true]
    refine wpS_bind (wpS_elem ea ?_)
    have mi := pushH_a j.mi ha ha' (fun y hy => by
      rw [take_snoc (by lia) hb'] at hsy hy
      exact Int.le_trans (last_le hsy y hy) (Int.le_of_lt hlt))
    by_cases he : na - 1 = 0
    · rw [if_pos (by simpa using he)]
      exact wpS_pure ⟨rfl, .inl ⟨_, rfl, fin_doneHi mi (.inl he)⟩⟩
    · rw [if_neg (by simpa using he)]
      have j' : HiJ a b T (na - 1) nb (out.push a[na - 1]) := ⟨mi, by lia, by lia, hb, hb'⟩
      have hs : m + 1 ≤ (out.push a[na - 1]).size := by rw [Array.size_push]; lia
      split
      · exact wpS_pure ⟨rfl, .inr ⟨rfl, j', hs⟩⟩
      · exact wpS_pure ⟨rfl, rfl, j', hs⟩
  · simp only [hlt, decide_false, Bool.false_eq_true, if_false]
    refine wpS_bind (wpS_elem eb ?_)
    have mi := pushH_b j.mi (by lia) hb' (fun x hx => by
      rw [take_snoc ha ha'] at hsx hx
      exact Int.le_trans (last_le hsx x hx) (Int.not_lt.mp hlt))
    by_cases he : nb - 1 = 1
    · rw [if_pos (by simpa using he)]
      exact wpS_pure ⟨rfl, .inl ⟨_, rfl, fin_first mi hfirst he⟩⟩
    · rw [if_neg (by simpa using he)]
      have j' : HiJ a b T na (nb - 1) (out.push b[nb - 1]) := ⟨mi, ha, ha', by lia, by lia⟩
      have hs : m + 1 ≤ (out.push b[nb - 1]).size := by rw [Array.size_push]; lia
      split
      · exact wpS_pure ⟨rfl, .inr ⟨rfl, j', hs⟩⟩
      · exact wpS_pure ⟨rfl, rfl, j', hs⟩
theorem wpS_hi3 {st : SortSt} {m : Nat} {out : Array Keyed} {na nb mg ac bc : Nat} (mi : MH T (a.toList.take na) (b.toList.take nb) out.toList.reverse) (ha : 0 < na) (ha' : na ≤ a.size) (hb : 1 < nb) (hb' : nb ≤ b.size) (hx : ∀ y ∈ b.toList.take nb, kle y (a[na - 1]'(by lia))) (hm : m ≤ out.size) :
    wpS (model prog w) A E s (hi3 a b na nb out mg ac bc) (fun r st' => st' = st ∧ stepP (HiP2 a b T m) (fun c => c.1 = none ∧ HiJ a b T c.2.1 c.2.2.1 c.2.2.2.1 ∧ m ≤ c.2.2.2.1.size) r) st := by
  have la : na - 1 < a.size := by lia
  have ea : a[na - 1]? = some a[na - 1] := getElem?_pos a (na - 1) la
  unfold hi3
  refine wpS_bind (wpS_elem ea ?_)
  have mi' := pushH_a mi ha ha' hx
  by_cases he : na - 1 = 0
  · rw [if_pos (by simpa using he)]
    exact wpS_pure ⟨rfl, .inl ⟨_, rfl, fin_doneHi mi' (.inl he)⟩⟩
  · rw [if_neg (by simpa using he)]
    have j' : HiJ a b T (na - 1) nb (out.push a[na - 1]) := ⟨mi', by lia, by lia, hb, hb'⟩
    have hs : m ≤ (out.push a[na - 1]).size := by rw [Array.size_push]; lia
    split
    · exact wpS_pure ⟨rfl, .inr ⟨rfl, j', hs⟩⟩
    · exact wpS_pure ⟨rfl, rfl, j', hs⟩
theorem wpS_hi2 {st : SortSt} {m : Nat} {out : Array Keyed} {na nb mg ac bc : Nat} (hk : kindOf st = oneType') (hIa : ∀ x ∈ a.toList, IsIntK x) (hIb : ∀ x ∈ b.toList, IsIntK x)
    (hfirst : ∀ y ∈ b.toList.take 1, ∀ x ∈ a.toList, kle y x) (mi : MH T (a.toList.take na) (b.toList.take nb) out.toList.reverse) (ha : 0 < na) (ha' : na ≤ a.size) (hb : 1 < nb) (hb' : nb ≤ b.size) (hx : ∀ x ∈ a.toList.take na, kle x (b[nb - 1]'(by lia))) (hm : m ≤ out.size) :
    wpS (model prog w) A E s (hi2 a b na nb out mg ac bc) (fun r st' => st' = st ∧ stepP (HiP2 a b T m) (fun c => c.1 = none ∧ HiJ a b T c.2.1 c.2.2.1 c.2.2.2.1 ∧ m ≤ c.2.2.2.1.size) r) st := by
  have la : na - 1 < a.size := by lia
  have lb : nb - 1 < b.size := by lia
  have ea : a[na - 1]? = some a[na - 1] := getElem?_pos a (na - 1) la
  have eb : b[nb - 1]? = some b[nb - 1] := getElem?_pos b (nb - 1) lb
  unfold hi2
  refine wpS_bind (wpS_elem eb ?_)
  have mi' := pushH_b mi (by lia) hb' hx
  have hs : m ≤ (out.push b[nb - 1]).size := by rw [Array.size_push]; lia
  by_cases he : nb - 1 = 1
  · rw [if_pos (by simpa using he)]
    exact wpS_pure ⟨rfl, .inl ⟨_, rfl, fin_first mi' hfirst he⟩⟩
  · rw [if_neg (by simpa using he)]
    refine wpS_bind (wpS_elem ea (wpS_bind (wpS_gallop hk (hIa _ (by simp)) (stands_take b (nb - 1)) (by rw [List.length_take, Array.length_toList]; lia) mi'.sy (fun x hx => hIb x (List.mem_of_mem_take hx)) (by lia) fun r hg => ?_)))
    obtain ⟨g1, g2, g3⟩ := galAt_take (by rw [Array.length_toList]; lia) hg
    have hsa := mi'.sx
    rw [take_snoc ha ha'] at hsa
    dsimp only
    by_cases hk0 : nb - 1 - r > 0
    · rw [if_pos hk0]
      have mi2 := chunkH_b mi' g1 (fun x hx y hy => by
        have q := g3 x hx
        simp only [galB, if_true] at q
        rw [take_snoc ha ha'] at hy
        exact Int.le_trans (last_le hsa y hy) (Int.not_lt.mp q))
      have hs2 : m ≤ (out.push b[nb - 1] ++ (b.extract r (nb - 1)).reverse).size := by rw [Array.size_append]; lia
      by_cases he1 : r = 1
      · rw [if_pos (by simpa using he1)]
        exact wpS_pure ⟨rfl, .inl ⟨_, rfl, fin_first mi2 hfirst he1⟩⟩
      · rw [if_neg (by simpa using he1)]
        by_cases he2 : r = 0
        · rw [if_pos (by simpa using he2)]
          exact wpS_pure ⟨rfl, .inl ⟨_, rfl, fin_doneHi mi2 (.inr he2)⟩⟩
        · rw [if_neg (by simpa using he2)]
          refine wpS_hi3 mi2 ha ha' (by lia) (by lia) (fun y hy => ?_) hs2
          have q := g2 y hy
          simp only [galB, if_true] at q
          exact Int.le_of_lt q
    · rw [if_neg hk0]
      have hr : r = nb - 1 := by lia
      rw [hr] at g2
      refine wpS_hi3 mi' ha ha' (by lia) (by lia) (fun y hy => ?_) hs
      have q := g2 y hy
      simp only [galB, if_true] at q
      exact Int.le_of_lt q
theorem wpS_hi1 {st : SortSt} {m : Nat} {out : Array Keyed} {na nb mg ac bc : Nat} (hk : kindOf st = oneType') (hIa : ∀ x ∈ a.toList, IsIntK x) (hIb : ∀ x ∈ b.toList, IsIntK x)
    (hfirst : ∀ y ∈ b.toList.take 1, ∀ x ∈ a.toList, kle y x) (j : HiJ a b T na nb out) (hm : m ≤ out.size) :
    wpS (model prog w) A E s (hi1 a b na nb out mg ac bc) (fun r st' => st' = setGal st mg ∧ stepP (HiP2 a b T m) (fun c => c.1 = none ∧ HiJ a b T c.2.1 c.2.2.1 c.2.2.2.1 ∧ m ≤ c.2.2.2.1.size) r) st := by
  have ha := j.ha
  have hb := j.hb
  have ha' := j.ha'
  have hb' := j.hb'
  have mi := j.mi
  have lb : nb - 1 < b.size := by lia
  have eb : b[nb - 1]? = some b[nb - 1] := getElem?_pos b (nb - 1) lb
  unfold hi1
  rw [setMinGallopP_eq]
  refine wpS_bind (wpS_modify ?_)
  have hk' : kindOf (setGal st mg) = oneType' := hk
  refine wpS_bind (wpS_elem eb (wpS_bind (wpS_gallop hk' (hIb _ (by simp)) (stands_take a na) (by rw [List.length_take, Array.length_toList]; lia) mi.sx (fun x hx => hIa x (List.mem_of_mem_take hx)) (by lia) fun r hg => ?_)))
  obtain ⟨g1, g2, g3⟩ := galAt_take (by rw [Array.length_toList]; lia) hg
  have hsb := mi.sy
  rw [take_snoc (by lia) hb'] at hsb
  dsimp only
  by_cases hk0 : na - r > 0
  · rw [if_pos hk0]
    have mi2 := chunkH_a mi g1 (fun x hx y hy => by
      have q := g3 x hx
      simp only [galB, Bool.false_eq_true, if_false] at q
      rw [take_snoc (by lia) hb'] at hy
      exact Int.le_trans (last_le hsb y hy) (Int.le_of_lt (Int.not_le.mp q)))
    have hs2 : m ≤ (out ++ (a.extract r na).reverse).size := by rw [Array.size_append]; lia
    by_cases he1 : r = 0
    · rw [if_pos (by simpa using he1)]
      exact wpS_pure ⟨rfl, .inl ⟨_, rfl, fin_doneHi mi2 (.inl he1)⟩⟩
    · rw [if_neg (by simpa using he1)]
      refine wpS_hi2 hk' hIa hIb hfirst mi2 (by lia) (by lia) hb hb' (fun x hx => ?_) hs2
      have q := g2 x hx
      simp only [galB, Bool.false_eq_true, if_false] at q
      exact q
  · rw [if_neg hk0]
    have hr : r = na := by lia
    rw [hr] at g2
    refine wpS_hi2 hk' hIa hIb hfirst mi ha ha' hb hb' (fun x hx => ?_) hm
    have q := g2 x hx
    simp only [galB, Bool.false_eq_true, if_false] at q
    exact q
theorem wpS_hiT {st : SortSt} {tot m : Nat} {c : HiS0} (hk : kindOf st = oneType') (hIa : ∀ x ∈ a.toList, IsIntK x) (hIb : ∀ x ∈ b.toList, IsIntK x)
    (hfirst : ∀ y ∈ b.toList.take 1, ∀ x ∈ a.toList, kle y x) (ht : 0 < tot) (j : HiJ a b T c.2.1 c.2.2.1 c.2.2.2.1) (hm : m ≤ c.2.2.2.1.size) :
    wpS (model prog w) A E s (hiT a b tot c) (fun r st' => StOk st st' ∧ stepP (fun c => ∃ v, c.1 = some v ∧ MFin T v) (fun c => c.1 = none ∧ HiJ a b T c.2.1 c.2.2.1 c.2.2.2.1 ∧ m + 1 ≤ c.2.2.2.1.size) r) st := by
  unfold hiT
  refine wpS_bind (wpS_mono (wpS_forRange (I := fun x d st' => st' = st ∧ d.1 = none ∧ HiJ a b T d.2.1 d.2.2.1 d.2.2.2.1 ∧ m + x ≤ d.2.2.2.1.size)
    (Q := fun d st' => st' = st ∧ HiP1 a b T (m + 1) d) ?step ?fin ?init) ?post)
  case init => exact ⟨rfl, rfl, j, hm⟩
  case fin =>
    rintro d st' ⟨rfl, h1, h2, h3⟩
    exact ⟨rfl, .inr ⟨h1, h2, by lia⟩⟩
  case step =>
    rintro x ⟨r, na, nb, out, ac, bc⟩ st' _ hx ⟨rfl, h1, h2, h3⟩
    dsimp only at h1 h2 h3
    subst h1
    refine wpS_mono (wpS_hi0 hk hIa hIb hfirst h2 h3) ?_
    rintro (d | d) st' ⟨rfl, hd⟩
    · refine ⟨rfl, ?_⟩
      rcases hd with hd | ⟨d1, d2, d3⟩
      · exact .inl hd
      · exact .inr ⟨d1, d2, by lia⟩
    · obtain ⟨d1, d2, d3⟩ := hd
      exact ⟨rfl, d1, d2, by lia⟩
  case post =>
    rintro ⟨r, na, nb, out, ac, bc⟩ st' ⟨rfl, hd⟩
    rcases hd with ⟨v, hv, hf⟩ | ⟨h1, h2, h3⟩
    · dsimp only at hv
      subst hv
      exact wpS_pure ⟨StOk.refl _, v, rfl, hf⟩
    · dsimp only at h1 h2 h3
      subst h1
      dsimp only
      refine wpS_bind (wpS_lift (wpAny_rule ⟨rfl, ?_⟩))
      refine wpS_bind (wpS_mono (wpS_forRange (I := fun x d st2 => StOk st' st2 ∧ d.1 = none ∧ HiJ a b T d.2.1 d.2.2.1 d.2.2.2.1 ∧ m + 1 ≤ d.2.2.2.1.size)
        (Q := fun d st2 => StOk st' st2 ∧ HiP2 a b T (m + 1) d) ?step2 ?fin2 ?init2) ?post2)
      case init2 => exact ⟨StOk.refl _, rfl, h2, h3⟩
      case fin2 =>
        rintro d st2 ⟨hst, d1, d2, d3⟩
        exact ⟨hst, .inr ⟨d1, d2, d3⟩⟩
      case step2 =>
        rintro x ⟨r, na2, nb2, out2, mg2, ac2, bc2⟩ st2 _ hx ⟨hst, d1, d2, d3⟩
        dsimp only at d1 d2 d3
        subst d1
        have key : ∀ g, wpS (model prog w) A E s (hi1 a b na2 nb2 out2 g ac2 bc2) (fun r st3 => match r with | .done d => StOk st' st3 ∧ HiP2 a b T (m + 1) d | .yield d => StOk st' st3 ∧ d.1 = none ∧ HiJ a b T d.2.1 d.2.2.1 d.2.2.2.1 ∧ m + 1 ≤ d.2.2.2.1.size) st2 := by
          intro g
          refine wpS_mono (wpS_hi1 (hst.kind hk) hIa hIb hfirst d2 d3) ?_
          rintro (d | d) st3 ⟨rfl, hd⟩
          · exact ⟨hst.trans ⟨g, rfl⟩, hd⟩
          · exact ⟨hst.trans ⟨g, rfl⟩, hd⟩
        dsimp only
        split
        · exact wpS_mono (key _) (fun r st3 h => by cases r <;> exact h)
        · exact wpS_mono (key _) (fun r st3 h => by cases r <;> exact h)
      case post2 =>
        rintro ⟨r, na2, nb2, out2, mg2, ac2, bc2⟩ st2 ⟨hst, hd⟩
        rcases hd with ⟨v, hv, hf⟩ | ⟨d1, d2, d3⟩
        · dsimp only at hv
          subst hv
          exact wpS_pure ⟨hst, v, rfl, hf⟩
        · dsimp only at d1 d2 d3
          subst d1
          dsimp only
          rw [setMinGallopP_eq]
          exact wpS_bind (wpS_modify (wpS_pure ⟨hst.trans ⟨_, rfl⟩, rfl, d2, d3⟩))
end
end
section
variable {prog : Program} {w : World} {A : Around} {E : Value → Shared → Prop} {s : Shared} {a b : Array Keyed}
theorem wpS_mergeHi {st : SortSt} {Q : Array Keyed → SortSt → Prop} (hk : kindOf st = oneType') (hIa : ∀ x ∈ a.toList, IsIntK x) (hIb : ∀ x ∈ b.toList, IsIntK x)
    (hsa : a.toList.Pairwise kle) (hsb : b.toList.Pairwise kle) (ha : 0 < a.size) (hb : 0 < b.size) (hfirst : ∀ y ∈ b.toList.take 1, ∀ x ∈ a.toList, kle y x)
    (hlast : ∀ y ∈ b.toList, kle y (a[a.size - 1]'(by lia)))
    (h : ∀ r st', StOk st st' → MFin (a.toList ++ b.toList) r → Q r st') : wpS (model prog w) A E s (mergeHiP a b) Q st := by
  rw [mergeHiP_eq]
  refine wpS_bind (wpS_lift (wpAny_rule ⟨rfl, ?_⟩))
  have la : a.size - 1 < a.size := by lia
  have ea : a[a.size - 1]? = some a[a.size - 1] := getElem?_pos a (a.size - 1) la
  refine wpS_bind (wpS_elem ea ?_)
  have ta : a.toList.take a.size = a.toList := List.take_of_length_le (by simp)
  have tb : b.toList.take b.size = b.toList := List.take_of_length_le (by simp)
  have mi0 : MH (a.toList ++ b.toList) (a.toList.take a.size) (b.toList.take b.size) (#[] : Array Keyed).toList.reverse := by
    rw [ta, tb]
    exact ⟨by simp, by simpa using hsa, by simpa using hsb⟩
  have mi := pushH_a mi0 ha (Nat.le_refl _) (fun y hy => by rw [tb] at hy; exact hlast y hy)
  by_cases he : a.size - 1 = 0
  · rw [if_pos (by simpa using he)]
    exact wpS_pure (h _ _ (StOk.refl _) (fin_doneHi mi (.inl he)))
  · rw [if_neg (by simpa using he)]
    by_cases he2 : b.size = 1
    · rw [if_pos (by simpa using he2)]
      exact wpS_pure (h _ _ (StOk.refl _) (fin_first mi hfirst he2))
    · rw [if_neg (by simpa using he2)]
      refine wpS_bind (wpS_get ?_)
      refine wpS_bind (wpS_mono (wpS_forRange (I := fun x c st' => StOk st st' ∧ c.1 = none ∧ HiJ a b (a.toList ++ b.toList) c.2.1 c.2.2.1 c.2.2.2.1 ∧ 1 + x ≤ c.2.2.2.1.size)
        (Q := fun c st' => StOk st st' ∧ ∃ v, c.1 = some v ∧ MFin (a.toList ++ b.toList) v) ?step ?fin ?init) ?post)
      case init => exact ⟨StOk.refl _, rfl, ⟨mi, show 0 < a.size - 1 by lia, show a.size - 1 ≤ a.size by lia, show 1 < b.size by lia, Nat.le_refl _⟩, by simp⟩
      case fin =>
        rintro c st' ⟨_, _, j, hx⟩
        have := j.room
        simp only [List.length_append, Array.length_toList] at this
        lia
      case step =>
        rintro x c st' _ hx ⟨hst, h1, j, hs⟩
        refine wpS_mono (wpS_hiT (hst.kind hk) hIa hIb hfirst (by lia) j hs) ?_
        rintro (d | d) st2 ⟨hst2, hd⟩
        · exact ⟨hst.trans hst2, hd⟩
        · exact ⟨hst.trans hst2, hd.1, hd.2.1, by have := hd.2.2; lia⟩
      case post =>
        rintro c st' ⟨hst, v, hv, hf⟩
        rw [hv]
        exact wpS_pure (h v st' hst hf)
end
theorem set_fold : ∀ (M : List Keyed) (j off : Nat) (arr : Array Keyed) (k : Nat), off + j + M.length ≤ arr.size →
    ((M.zipIdx j).foldl (fun a p => a.setIfInBounds (off + p.2) p.1) arr)[k]? = if off + j ≤ k ∧ k < off + j + M.length then M[k - (off + j)]? else arr[k]?
  | [], j, off, arr, k, h => by
    rw [List.zipIdx_nil, List.foldl_nil, if_neg (by simp only [List.length_nil]; lia)]
  | x :: M, j, off, arr, k, h => by
    simp only [List.length_cons] at h
    rw [List.zipIdx_cons, List.foldl_cons, set_fold M (j + 1) off _ k (by rw [Array.size_setIfInBounds]; lia)]
    dsimp only
    by_cases h1 : k = off + j
    · subst h1
      rw [if_neg (by lia), if_pos (by simp only [List.length_cons]; lia), Nat.sub_self]
      rw [Array.getElem?_setIfInBounds_self, if_pos (by lia)]
      rfl
    · by_cases h2 : off + (j + 1) ≤ k ∧ k < off + (j + 1) + M.length
      · rw [if_pos h2, if_pos (by simp only [List.length_cons]; lia)]
        obtain ⟨d, hd⟩ : ∃ d, k - (off + j) = d + 1 := ⟨k - (off + j) - 1, by lia⟩
        rw [hd, List.getElem?_cons_succ]
        congr 1; lia
      · rw [if_neg h2, if_neg (by simp only [List.length_cons]; lia), Array.getElem?_setIfInBounds_ne (by lia)]
theorem set_fold_list {M P B R : List Keyed} {arr : Array Keyed} (ha : arr.toList = P ++ B ++ R) (hm : M.length = B.length) :
    (M.zipIdx.foldl (fun a p => a.setIfInBounds (P.length + p.2) p.1) arr).toList = P ++ M ++ R := by
  have hsz : arr.size = P.length + B.length + R.length := by rw [← Array.length_toList, ha]; simp only [List.length_append]
  refine List.ext_getElem? fun k => ?_
  rw [Array.getElem?_toList, set_fold M 0 P.length arr k (by lia), ← Array.getElem?_toList, ha, Nat.add_zero]
  by_cases h1 : k < P.length
  · rw [if_neg (by lia), List.append_assoc, List.append_assoc, List.getElem?_append_left h1, List.getElem?_append_left h1]
  · by_cases h2 : k < P.length + M.length
    · rw [if_pos ⟨by lia, h2⟩, List.getElem?_append_left (l₁ := P ++ M) (by rw [List.length_append]; exact h2), List.getElem?_append_right (by lia)]
    · rw [if_neg (by lia), List.getElem?_append_right (l₁ := P ++ B) (by rw [List.length_append]; lia), List.getElem?_append_right (l₁ := P ++ M) (by rw [List.length_append]; lia)]
      simp only [List.length_append, hm]
noncomputable def mergeEnd (sa : Nat) (m : Array Keyed) : StateT SortSt Sem Bool := do
  modify fun s => setArr s (m.toList.zipIdx.foldl (fun a p => a.setIfInBounds (sa + p.2) p.1) (arrOf s))
  let s' ← get
  pure (failedOf s').isNone
theorem mergeAt'_eq (i : Nat) : mergeAt' i = (do
    let s ← get
    match ((pendingOf s)[i]?, (pendingOf s)[i + 1]?) with
    | (some (sa, na, pw), some (sb, nb, _)) => do
      set (setPending s (((pendingOf s).setIfInBounds i (sa, na + nb, pw)).eraseIdxIfInBounds (i + 1)))
      let y ← elem' (arrOf s) sb
      let k? ← gallopP false y (arrOf s) sa na 0
      match k? with
      | some k =>
        if (na - k == 0) = true then pure true
        else do
          let x ← elem' (arrOf s) (sa + k + (na - k) - 1)
          let r? ← gallopP true x (arrOf s) sb nb (nb - 1)
          match r? with
          | some r =>
            if (r == 0) = true then pure true
            else if na - k ≤ r then mergeLoP ((arrOf s).extract (sa + k) sb) ((arrOf s).extract sb (sb + r)) >>= mergeEnd (sa + k)
            else mergeHiP ((arrOf s).extract (sa + k) sb) ((arrOf s).extract sb (sb + r)) >>= mergeEnd (sa + k)
          | _ => pure false
      | _ => pure false
    | _ => liftM (unsupported "internal:list.sort.pending" : Sem Bool)) := by kernel_rfl
section
variable {prog : Program} {w : World} {A : Around} {E : Value → Shared → Prop} {s : Shared}
theorem wpS_set {st st' : SortSt} {Q : PUnit → SortSt → Prop} (h : Q ⟨⟩ st') : wpS (model prog w) A E s (set st' : StateT SortSt Sem PUnit) Q st := by
  unfold wpS; rw [StateT.run_set]; exact wpAny_pure ⟨rfl, h⟩
theorem stands_mid {arr : Array Keyed} {P X R : List Keyed} (h : arr.toList = P ++ X ++ R) : Stands arr P.length X := by
  intro i hi
  rw [← Array.getElem?_toList, h, List.append_assoc, List.getElem?_append_right (by lia), List.getElem?_append_left (by lia), Nat.add_sub_cancel_left, List.getElem?_eq_getElem hi]
theorem ext_of {arr : Array Keyed} {P X R : List Keyed} (h : arr.toList = P ++ X ++ R) {i j : Nat} (hi : i = P.length) (hj : j = P.length + X.length) : (arr.extract i j).toList = X := by
  subst hi; subst hj
  rw [ext_cut, h, List.take_append_of_le_length (by rw [List.length_append]; exact Nat.le_refl _), List.take_of_length_le (by rw [List.length_append]; exact Nat.le_refl _), List.drop_append_of_le_length (Nat.le_refl _), List.drop_of_length_le (Nat.le_refl _), List.nil_append]

/-- what a state is left as by a merge of two neighbours -/
noncomputable def MergedTo (st st' : SortSt) (P X Y R : List Keyed) (p : Array (Nat × Nat × Nat)) : Prop :=
  ∃ Z, (arrOf st').toList = P ++ Z ++ R ∧ Z.Perm (X ++ Y) ∧ Z.Pairwise kle ∧ kindOf st' = kindOf st ∧ failedOf st' = failedOf st ∧ pendingOf st' = p
theorem wpS_mergeAt {st : SortSt} {i na nb pw pw2 : Nat} {P X Y R : List Keyed} {Q : Bool → SortSt → Prop} (hk : kindOf st = oneType') (hf : failedOf st = none) (ha : (arrOf st).toList = P ++ X ++ Y ++ R)
    (hI : ∀ x ∈ (arrOf st).toList, IsIntK x) (hp1 : (pendingOf st)[i]? = some (P.length, na, pw)) (hp2 : (pendingOf st)[i + 1]? = some (P.length + na, nb, pw2)) (hna : na = X.length) (hnb : nb = Y.length) (hX : X.Pairwise kle) (hY : Y.Pairwise kle) (hX0 : 0 < X.length) (hY0 : 0 < Y.length)
    (h : ∀ st', MergedTo st st' P X Y R (((pendingOf st).setIfInBounds i (P.length, na + nb, pw)).eraseIdxIfInBounds (i + 1)) → Q true st') : wpS (model prog w) A E s (mergeAt' i) Q st := by
  subst hna; subst hnb
  rw [mergeAt'_eq]
  refine wpS_bind (wpS_get ?_)
  rw [hp1, hp2]
  dsimp only
  refine wpS_bind (wpS_set ?_)
  have hIX : ∀ x ∈ X, IsIntK x := fun x hx => hI x (by rw [ha]; simp [hx])
  have hIY : ∀ x ∈ Y, IsIntK x := fun x hx => hI x (by rw [ha]; simp [hx])
  have sX : Stands (arrOf st) P.length X := stands_mid (R := Y ++ R) (by rw [ha, List.append_assoc])
  have sY : Stands (arrOf st) (P.length + X.length) Y := by
    have := stands_mid (P := P ++ X) (X := Y) (R := R) ha
    rwa [List.length_append] at this
  have eY0 : (arrOf st)[P.length + X.length]? = some (Y[0]'hY0) := sY 0 hY0
  have mY0 : Y[0]'hY0 ∈ Y := List.getElem_mem hY0
  have leY0 : ∀ y ∈ Y, kle (Y[0]'hY0) y := by
    intro y hy
    obtain ⟨j, hj, rfl⟩ := List.getElem_of_mem hy
    rcases Nat.eq_zero_or_pos j with rfl | h0
    · exact Int.le_refl _
    · exact List.pairwise_iff_getElem.mp hY 0 j hY0 hj h0
  refine wpS_bind (wpS_elem eY0 (wpS_bind (wpS_gallop hk (hIY _ mY0) sX rfl hX hIX hX0 fun k hg => ?_)))
  obtain ⟨g1, g2, g3⟩ := hg
  simp only [galB, Bool.false_eq_true, if_false] at g2 g3
  have eX : X = X.take k ++ X.drop k := (List.take_append_drop k X).symm
  dsimp only
  by_cases hk0 : X.length - k = 0
  · rw [if_pos (by simpa using hk0)]
    refine wpS_pure (h _ ⟨X ++ Y, by rw [← List.append_assoc]; exact ha, List.Perm.refl _, ?_, rfl, rfl, rfl⟩)
    rw [List.pairwise_append]
    refine ⟨hX, hY, fun x hx y hy => ?_⟩
    have : X.take k = X := List.take_of_length_le (by lia)
    rw [this] at g2
    exact Int.le_trans (g2 x hx) (leY0 y hy)
  · rw [if_neg (by simpa using hk0)]
    have hl : X.length - 1 < X.length := by lia
    have eXl : (arrOf st)[P.length + k + (X.length - k) - 1]? = some (X[X.length - 1]'hl) := by
      have := sX (X.length - 1) hl
      rwa [show P.length + (X.length - 1) = P.length + k + (X.length - k) - 1 by lia] at this
    have mXl : X[X.length - 1]'hl ∈ X := List.getElem_mem hl
    have leXl : ∀ x ∈ X, kle x (X[X.length - 1]'hl) := by
      intro x hx
      obtain ⟨j, hj, rfl⟩ := List.getElem_of_mem hx
      rcases Nat.lt_or_ge j (X.length - 1) with h0 | h0
      · exact List.pairwise_iff_getElem.mp hX j _ hj hl h0
      · have : j = X.length - 1 := by lia
        subst this; exact Int.le_refl _
    refine wpS_bind (wpS_elem eXl (wpS_bind (wpS_gallop hk (hIX _ mXl) sY rfl hY hIY (by lia) fun r hg => ?_)))
    obtain ⟨r1, r2, r3⟩ := hg
    simp only [galB, if_true] at r2 r3
    dsimp only
    by_cases hr0 : r = 0
    · rw [if_pos (by simpa using hr0)]
      refine wpS_pure (h _ ⟨X ++ Y, by rw [← List.append_assoc]; exact ha, List.Perm.refl _, ?_, rfl, rfl, rfl⟩)
      rw [List.pairwise_append]
      refine ⟨hX, hY, fun x hx y hy => ?_⟩
      rw [hr0, List.drop_zero] at r3
      exact Int.le_trans (leXl x hx) (Int.not_lt.mp (r3 y hy))
    · rw [if_neg (by simpa using hr0)]
      have eY : Y = Y.take r ++ Y.drop r := (List.take_append_drop r Y).symm
      have ha2 : (arrOf st).toList = (P ++ X.take k) ++ (X.drop k ++ Y.take r) ++ (Y.drop r ++ R) := by
        rw [ha]
        conv => lhs; rw [eX, eY]
        simp only [List.append_assoc]
      have lk : (X.take k).length = k := by rw [List.length_take]; lia
      have lr : (Y.take r).length = r := by rw [List.length_take]; lia
      have ldk : (X.drop k).length = X.length - k := List.length_drop ..
      have ex1 : ((arrOf st).extract (P.length + k) (P.length + X.length)).toList = X.drop k :=
        ext_of (P := P ++ X.take k) (R := Y.take r ++ (Y.drop r ++ R)) (by rw [ha2]; simp only [List.append_assoc]) (by rw [List.length_append, lk]) (by rw [List.length_append, lk, ldk]; lia)
      have ex2 : ((arrOf st).extract (P.length + X.length) (P.length + X.length + r)).toList = Y.take r :=
        ext_of (P := P ++ X) (R := Y.drop r ++ R) (by rw [ha]; conv => lhs; rw [eY]
                                                      simp only [List.append_assoc]) (by rw [List.length_append]) (by rw [List.length_append, lr])
      have sz1 : ((arrOf st).extract (P.length + k) (P.length + X.length)).size = X.length - k := by rw [← Array.length_toList, ex1, ldk]
      have sz2 : ((arrOf st).extract (P.length + X.length) (P.length + X.length + r)).size = r := by rw [← Array.length_toList, ex2, lr]
      have fin : ∀ (m : Array Keyed) (st2 : SortSt), StOk (setPending st (((pendingOf st).setIfInBounds i (P.length, X.length + Y.length, pw)).eraseIdxIfInBounds (i + 1))) st2 → MFin (X.drop k ++ Y.take r) m →
          wpS (model prog w) A E s (mergeEnd (P.length + k) m) Q st2 := by
        rintro m st2 ⟨g, rfl⟩ ⟨mp, ms⟩
        unfold mergeEnd
        refine wpS_bind (wpS_modify (wpS_bind (wpS_get ?_)))
        have hfin : (failedOf st).isNone = true := by rw [hf]; rfl
        show wpS _ _ _ _ (pure (failedOf st).isNone) _ _
        rw [hfin]
        refine wpS_pure (h _ ⟨X.take k ++ m.toList ++ Y.drop r, ?_, ?_, ?_, rfl, rfl, rfl⟩)
        · have hq := set_fold_list (M := m.toList) ha2 mp.length_eq
          rw [List.length_append, lk] at hq
          show (List.foldl _ (arrOf st) _).toList = _
          rw [hq]
          simp only [List.append_assoc]
        · conv => rhs; rw [eX, eY]
          rw [List.append_assoc (X.take k) (X.drop k), List.append_assoc]
          refine List.Perm.append_left _ ?_
          rw [← List.append_assoc]
          exact mp.append_right _
        · rw [List.append_assoc, List.pairwise_append]
          have sx1 : (X.take k).Pairwise kle := List.Pairwise.sublist (List.take_sublist ..) hX
          have sy2 : (Y.drop r).Pairwise kle := List.Pairwise.sublist (List.drop_sublist ..) hY
          rw [eX, List.pairwise_append] at hX
          rw [eY, List.pairwise_append] at hY
          refine ⟨sx1, ?_, fun x hx z hz => ?_⟩
          · rw [List.pairwise_append]
            refine ⟨ms, sy2, fun x hx z hz => ?_⟩
            rcases List.mem_append.mp (mp.mem_iff.mp hx) with hx | hx
            · exact Int.le_trans (leXl x (List.mem_of_mem_drop hx)) (Int.not_lt.mp (r3 z hz))
            · exact hY.2.2 x hx z hz
          · rcases List.mem_append.mp hz with hz | hz
            · rcases List.mem_append.mp (mp.mem_iff.mp hz) with hz | hz
              · exact hX.2.2 x hx z hz
              · exact Int.le_trans (g2 x hx) (leY0 z (List.mem_of_mem_take hz))
            · exact Int.le_trans (g2 x hx) (leY0 z (List.mem_of_mem_drop hz))
      have hI1 : ∀ x ∈ ((arrOf st).extract (P.length + k) (P.length + X.length)).toList, IsIntK x := fun x hx => by rw [ex1] at hx; exact hIX x (List.mem_of_mem_drop hx)
      have hI2 : ∀ x ∈ ((arrOf st).extract (P.length + X.length) (P.length + X.length + r)).toList, IsIntK x := fun x hx => by rw [ex2] at hx; exact hIY x (List.mem_of_mem_take hx)
      have s1 : ((arrOf st).extract (P.length + k) (P.length + X.length)).toList.Pairwise kle := by rw [ex1]; exact List.Pairwise.sublist (List.drop_sublist ..) hX
      have s2 : ((arrOf st).extract (P.length + X.length) (P.length + X.length + r)).toList.Pairwise kle := by rw [ex2]; exact List.Pairwise.sublist (List.take_sublist ..) hY
      have f0 : ∀ y ∈ ((arrOf st).extract (P.length + X.length) (P.length + X.length + r)).toList.take 1, y = Y[0]'hY0 := by
        intro y hy
        rw [ex2, List.take_take, Nat.min_eq_left (by lia)] at hy
        obtain ⟨y0, Y', hYe⟩ : ∃ y0 Y', Y = y0 :: Y' := by
          cases Y with
          | nil => exact absurd hY0 (Nat.lt_irrefl _)
          | cons y0 Y' => exact ⟨y0, Y', rfl⟩
        subst hYe
        simpa using hy
      have first : ∀ y ∈ ((arrOf st).extract (P.length + X.length) (P.length + X.length + r)).toList.take 1, ∀ x ∈ ((arrOf st).extract (P.length + k) (P.length + X.length)).toList, kle y x := by
        intro y hy x hx
        rw [f0 y hy]
        rw [ex1] at hx
        exact Int.le_of_lt (Int.not_le.mp (g3 x hx))
      have last : ∀ y ∈ ((arrOf st).extract (P.length + X.length) (P.length + X.length + r)).toList, kle y (X[X.length - 1]'hl) := by
        intro y hy
        rw [ex2] at hy
        exact Int.le_of_lt (r2 y hy)
      have lx : ∀ j (hj : j < ((arrOf st).extract (P.length + k) (P.length + X.length)).size), j + 1 = ((arrOf st).extract (P.length + k) (P.length + X.length)).size → ((arrOf st).extract (P.length + k) (P.length + X.length))[j] = X[X.length - 1]'hl := by
        intro j hj he
        have e1 : ((arrOf st).extract (P.length + k) (P.length + X.length))[j]? = (X.drop k)[j]? := by rw [← Array.getElem?_toList, ex1]
        rw [getElem?_pos _ j hj, List.getElem?_drop, show k + j = X.length - 1 by lia, List.getElem?_eq_getElem hl] at e1
        exact Option.some.inj e1
      by_cases hle : X.length - k ≤ r
      · rw [if_pos hle]
        refine wpS_bind (wpS_mergeLo (st := setPending st _) hk hI1 hI2 s1 s2 (by lia) (by lia) (fun x hx => ?_) (fun y hy x hx => ?_) fun m st2 hst hm => ?_)
        · refine first _ ?_ x hx
          have h0 : 0 < ((arrOf st).extract (P.length + X.length) (P.length + X.length + r)).size := by lia
          have := drop_cons h0
          rw [List.drop_zero] at this
          rw [this, List.take_succ_cons]
          exact List.mem_cons_self
        · have h0 : ((arrOf st).extract (P.length + k) (P.length + X.length)).size - 1 < ((arrOf st).extract (P.length + k) (P.length + X.length)).size := by lia
          rw [drop_cons h0, List.drop_of_length_le (by rw [Array.length_toList]; lia), List.mem_singleton] at hx
          rw [hx, lx _ h0 (by lia)]
          exact last y hy
        · rw [ex1, ex2] at hm
          exact fin m st2 hst hm
      · rw [if_neg hle]
        refine wpS_bind (wpS_mergeHi (st := setPending st _) hk hI1 hI2 s1 s2 (by lia) (by lia) first (fun y hy => ?_) fun m st2 hst hm => ?_)
        · rw [lx _ (by lia) (by lia)]
          exact last y hy
        · rw [ex1, ex2] at hm
          exact fin m st2 hst hm
end
section
variable {prog : Program} {w : World} {A : Around} {E : Value → Shared → Prop} {s : Shared}
/-- the array but for its places lo .. hi - 1 stands, and they are turned about among themselves -/
structure Rn (st : SortSt) (lo hi : Nat) (st' : SortSt) : Prop where
  eq : ∃ xs, st' = setArr st xs
  perm : (arrOf st').Perm (arrOf st)
  off : ∀ i, (i < lo ∨ hi ≤ i) → (arrOf st')[i]? = (arrOf st)[i]?
theorem Rn.refl (st : SortSt) (lo hi : Nat) : Rn st lo hi st := ⟨⟨arrOf st, rfl⟩, Array.Perm.refl _, fun _ _ => rfl⟩
theorem Rn.trans {s1 s2 s3 : SortSt} {lo hi : Nat} (h : Rn s1 lo hi s2) (h' : Rn s2 lo hi s3) : Rn s1 lo hi s3 := by
  obtain ⟨⟨xs, rfl⟩, p, o⟩ := h
  obtain ⟨⟨ys, rfl⟩, p', o'⟩ := h'
  exact ⟨⟨ys, rfl⟩, p'.trans p, fun i hi => (o' i hi).trans (o i hi)⟩
theorem Rn.size {s1 s2 : SortSt} {lo hi : Nat} (h : Rn s1 lo hi s2) : (arrOf s2).size = (arrOf s1).size := h.perm.size_eq
theorem Rn.kind {s1 s2 : SortSt} {lo hi : Nat} (h : Rn s1 lo hi s2) : kindOf s2 = kindOf s1 := by
  obtain ⟨⟨xs, rfl⟩, _, _⟩ := h
  rfl
theorem Rn.failed {s1 s2 : SortSt} {lo hi : Nat} (h : Rn s1 lo hi s2) : failedOf s2 = failedOf s1 := by
  obtain ⟨⟨xs, rfl⟩, _, _⟩ := h
  rfl
theorem Rn.pending {s1 s2 : SortSt} {lo hi : Nat} (h : Rn s1 lo hi s2) : pendingOf s2 = pendingOf s1 := by
  obtain ⟨⟨xs, rfl⟩, _, _⟩ := h
  rfl
theorem Rn.ints {s1 s2 : SortSt} {lo hi : Nat} (h : Rn s1 lo hi s2) (hI : ∀ x ∈ (arrOf s1).toList, IsIntK x) : ∀ x ∈ (arrOf s2).toList, IsIntK x := fun x hx => hI x ((Array.perm_iff_toList_perm.mp h.perm).mem_iff.mp hx)
theorem Rn.mirror_ {st : SortSt} {lo hi i j : Nat} (h1 : lo ≤ i) (h2 : j ≤ hi) (hs : j ≤ (arrOf st).size) : Rn st lo hi (setArr st (mirror (arrOf st) i j ((j - i) / 2))) := by
  refine ⟨⟨_, rfl⟩, mirror_perm _ _ _ _, fun k hk => ?_⟩
  show (PyProof.Rows.mirror (arrOf st) i j ((j - i) / 2))[k]? = _
  rw [getElem?_mirror_all hs, if_neg (by lia)]
theorem Rn.bubble_ {st : SortSt} {lo hi src d : Nat} (h1 : lo + d ≤ src) (h2 : src < hi) (hs : src < (arrOf st).size) : Rn st lo hi (setArr st (bubble (arrOf st) src d)) := by
  refine ⟨⟨_, rfl⟩, bubble_perm _ _ _, fun k hk => ?_⟩
  show (PyProof.Rows.bubble (arrOf st) src d)[k]? = _
  rw [getElem?_bubble hs d (by lia)]
  split
  · have : d = 0 := by lia
    subst this
    congr 1
    lia
  · split
    · lia
    · rfl

theorem wpS_ltI {st : SortSt} {i j : Nat} {Q : Option Bool → SortSt → Prop} (hk : kindOf st = oneType') (hI : ∀ x ∈ (arrOf st).toList, IsIntK x) (hi : i < (arrOf st).size) (hj : j < (arrOf st).size)
    (h : Q (some (decide (K (arrOf st) i < K (arrOf st) j))) st) : wpS (model prog w) A E s (ltAt' i j) Q st := by
  have at_ : ∀ k (hk : k < (arrOf st).size), ∃ t q, (arrOf st)[k]? = some (.int (K (arrOf st) k) t, q) := by
    intro k hk
    obtain ⟨n, t, hn⟩ := hI (arrOf st)[k] (by simp)
    refine ⟨t, (arrOf st)[k].2, ?_⟩
    have e : (arrOf st)[k]? = some (arrOf st)[k] := getElem?_pos _ k hk
    have e2 : (arrOf st)[k] = (.int n t, (arrOf st)[k].2) := Prod.ext hn rfl
    unfold K
    rw [e, e2]
    rfl
  obtain ⟨t, p, e1⟩ := at_ i hi
  obtain ⟨u, q, e2⟩ := at_ j hj
  exact wpS_ltAt hk e1 e2 h
theorem wpS_rev {st : SortSt} {i j : Nat} {Q : Unit → SortSt → Prop} (h : Q () (setArr st (mirror (arrOf st) i j ((j - i) / 2)))) : wpS (model prog w) A E s (reverseSlice' i j) Q st := by
  rw [reverseSlice'_eq]; exact wpS_modify h

/-- rising, or falling, from lo on for n places -/
noncomputable def Up (xs : Array Keyed) (lo n : Nat) : Prop := ∀ i j, i ≤ j → j < n → K xs (lo + i) ≤ K xs (lo + j)
noncomputable def Down (xs : Array Keyed) (lo n : Nat) : Prop := ∀ i j, i ≤ j → j < n → K xs (lo + j) ≤ K xs (lo + i)
theorem Up.one (xs : Array Keyed) (lo : Nat) : Up xs lo 1 := fun i j h1 h2 => by
  have e1 : i = 0 := by lia
  have e2 : j = 0 := by lia
  subst e1; subst e2; exact Int.le_refl _
theorem Up.snoc {xs : Array Keyed} {lo n : Nat} (h : Up xs lo n) (h1 : 0 < n) (h2 : K xs (lo + n - 1) ≤ K xs (lo + n)) : Up xs lo (n + 1) := by
  intro i j hij hj
  by_cases hjn : j < n
  · exact h i j hij hjn
  · have : j = n := by lia
    subst this
    by_cases hi : i = j
    · subst hi; exact Int.le_refl _
    · refine Int.le_trans (h i (j - 1) (by lia) (by lia)) ?_
      rwa [show lo + (j - 1) = lo + j - 1 by lia]
theorem Down.snoc {xs : Array Keyed} {lo n : Nat} (h : Down xs lo n) (h1 : 0 < n) (h2 : K xs (lo + n) ≤ K xs (lo + n - 1)) : Down xs lo (n + 1) := by
  intro i j hij hj
  by_cases hjn : j < n
  · exact h i j hij hjn
  · have : j = n := by lia
    subst this
    by_cases hi : i = j
    · subst hi; exact Int.le_refl _
    · refine Int.le_trans ?_ (h i (j - 1) (by lia) (by lia))
      rwa [show lo + (j - 1) = lo + j - 1 by lia]
theorem Down.rev {xs : Array Keyed} {lo n : Nat} (h : Down xs lo n) (hs : lo + n ≤ xs.size) : Up (mirror xs lo (lo + n) ((lo + n - lo) / 2)) lo n := by
  intro i j hij hj
  rw [K_mirror hs, K_mirror hs, if_pos (by omega), if_pos (by omega)]
  have := h (n - 1 - j) (n - 1 - i) (by omega) (by omega)
  rwa [show lo + (n - 1 - j) = lo + (lo + n) - 1 - (lo + j) by omega, show lo + (n - 1 - i) = lo + (lo + n) - 1 - (lo + i) by omega] at this

noncomputable abbrev AsS := Option (Option Nat) × Nat
noncomputable abbrev DeS := Option (Option Nat) × Nat × Nat
noncomputable def ascP (lo a nrem : Nat) : StateT SortSt Sem AsS :=
  forIn [a:nrem] ((none, a) : AsS) fun _ c => do
    let x ← ltAt' (lo + c.2) (lo + c.2 - 1)
    match x with
    | some sm => if sm = true then pure (.done (none, c.2)) else pure (.yield (none, c.2 + 1))
    | _ => pure (.done (some none, c.2))
noncomputable def tailP (lo n nrem : Nat) : StateT SortSt Sem (Option Nat) := do
  reverseSlice' lo (lo + n)
  let c ← ascP lo n nrem
  match c.1 with
  | some r => pure r
  | none => pure (some c.2)
noncomputable def fallP (lo a nrem : Nat) : StateT SortSt Sem DeS :=
  forIn [a:nrem] ((none, a, 0) : DeS) fun _ c => do
    let x ← ltAt' (lo + c.2.1) (lo + c.2.1 - 1)
    match x with
    | some sm =>
      if sm = true then
        if c.2.2 > 0 then do
          reverseSlice' (lo + c.2.1 - (c.2.2 + 1)) (lo + c.2.1)
          pure (.yield (none, c.2.1 + 1, 0))
        else pure (.yield (none, c.2.1 + 1, 0))
      else do
        let x ← ltAt' (lo + c.2.1 - 1) (lo + c.2.1)
        match x with
        | some la => if la = true then pure (.done (none, c.2.1, c.2.2)) else pure (.yield (none, c.2.1 + 1, c.2.2 + 1))
        | _ => pure (.done (some none, c.2.1, c.2.2))
    | _ => pure (.done (some none, c.2.1, c.2.2))
noncomputable def descP (lo n nrem : Nat) : StateT SortSt Sem (Option Nat) := do
  liftM (rule "list.sort.descending-run")
  let c ← fallP lo (n + 1) nrem
  match c.1 with
  | some r => pure r
  | none =>
    if c.2.2 > 0 then do
      reverseSlice' (lo + c.2.1 - (c.2.2 + 1)) (lo + c.2.1)
      tailP lo c.2.1 nrem
    else tailP lo c.2.1 nrem
theorem countRunP_eq (lo nrem : Nat) : countRun' lo nrem = (do
    let c ← ascP lo 1 nrem
    match c.1 with
    | some r => pure r
    | none =>
      if (c.2 == nrem) = true then pure (some c.2)
      else if c.2 > 1 then do
        let x ← ltAt' lo (lo + c.2 - 1)
        match x with
        | some rose => if rose = true then pure (some c.2) else do
            reverseSlice' lo (lo + c.2)
            descP lo c.2 nrem
        | _ => pure none
      else descP lo c.2 nrem) := by kernel_rfl
end
section
variable {prog : Program} {w : World} {A : Around} {E : Value → Shared → Prop} {s : Shared}
theorem wpS_ascP {st : SortSt} {lo a nrem : Nat} {Q : AsS → SortSt → Prop} (hk : kindOf st = oneType') (hI : ∀ x ∈ (arrOf st).toList, IsIntK x) (hs : lo + nrem ≤ (arrOf st).size) (ha : 1 ≤ a) (han : a ≤ nrem) (hu : Up (arrOf st) lo a)
    (h : ∀ n, a ≤ n → n ≤ nrem → Up (arrOf st) lo n → (n = nrem ∨ K (arrOf st) (lo + n) < K (arrOf st) (lo + n - 1)) → Q (none, n) st) : wpS (model prog w) A E s (ascP lo a nrem) Q st := by
  unfold ascP
  refine wpS_forRange (I := fun x c st' => st' = st ∧ c = (none, x) ∧ Up (arrOf st) lo x) ?step ?fin ⟨rfl, rfl, hu⟩
  case fin =>
    rintro c st' ⟨rfl, rfl, hu'⟩
    rw [show max a nrem = nrem by lia] at hu' ⊢
    exact h nrem han (Nat.le_refl _) hu' (.inl rfl)
  case step =>
    rintro x c st' hax hxn ⟨rfl, rfl, hu'⟩
    dsimp only
    refine wpS_bind (wpS_ltI hk hI (by lia) (by lia) ?_)
    by_cases hlt : K (arrOf st') (lo + x) < K (arrOf st') (lo + x - 1)
    · simp only [hlt, decide_true, if_true]
      exact wpS_pure (h x hax (by lia) hu' (.inr hlt))
    · simp only [hlt, decide_false, Bool.false_eq_true, if_false]
      exact wpS_pure ⟨rfl, rfl, hu'.snoc (by lia) (Int.not_lt.mp hlt)⟩
theorem wpS_tailP {st₀ st : SortSt} {lo n nrem : Nat} {Q : Option Nat → SortSt → Prop} (hr : Rn st₀ lo (lo + nrem) st) (hk : kindOf st₀ = oneType') (hI : ∀ x ∈ (arrOf st₀).toList, IsIntK x) (hs : lo + nrem ≤ (arrOf st₀).size) (h1 : 1 ≤ n) (hn : n ≤ nrem) (hd : Down (arrOf st) lo n)
    (h : ∀ m st', Rn st₀ lo (lo + nrem) st' → 1 ≤ m → m ≤ nrem → Up (arrOf st') lo m → Q (some m) st') : wpS (model prog w) A E s (tailP lo n nrem) Q st := by
  unfold tailP
  refine wpS_bind (wpS_rev ?_)
  have hsz : lo + n ≤ (arrOf st).size := by rw [hr.size]; lia
  have hr2 := hr.trans (Rn.mirror_ (lo := lo) (hi := lo + nrem) (Nat.le_refl lo) (show lo + n ≤ lo + nrem by lia) hsz)
  refine wpS_bind (wpS_ascP (hr2.kind.trans hk) (hr2.ints hI) (by rw [hr2.size]; lia) h1 hn (hd.rev hsz) fun m m1 m2 hu _ => ?_)
  exact wpS_pure (h m _ hr2 (by lia) m2 hu)
theorem wpS_fallP {st₀ st : SortSt} {lo n nrem : Nat} {Q : DeS → SortSt → Prop} (hr : Rn st₀ lo (lo + nrem) st) (hk : kindOf st₀ = oneType') (hI : ∀ x ∈ (arrOf st₀).toList, IsIntK x) (hs : lo + nrem ≤ (arrOf st₀).size) (h1 : 1 ≤ n) (hn : n ≤ nrem) (hd : Down (arrOf st) lo n)
    (h : ∀ m q st', Rn st₀ lo (lo + nrem) st' → n ≤ m → m ≤ nrem → Down (arrOf st') lo m → q + 1 ≤ m → (∀ i, m - (q + 1) ≤ i → i < m → K (arrOf st') (lo + i) = K (arrOf st') (lo + m - 1)) → Q (none, m, q) st') :
    wpS (model prog w) A E s (fallP lo n nrem) Q st := by
  unfold fallP
  refine wpS_forRange (I := fun x c st' => ∃ q, c = (none, x, q) ∧ Rn st₀ lo (lo + nrem) st' ∧ Down (arrOf st') lo x ∧ q + 1 ≤ x ∧
      (∀ i, x - (q + 1) ≤ i → i < x → K (arrOf st') (lo + i) = K (arrOf st') (lo + x - 1))) ?step ?fin ⟨0, rfl, hr, hd, by lia, fun i h1 h2 => by congr 1; lia⟩
  case fin =>
    rintro c st' ⟨q, rfl, hr', hd', hq, he⟩
    rw [show max n nrem = nrem by lia] at hd' hq he ⊢
    exact h nrem q st' hr' hn (Nat.le_refl _) hd' hq he
  case step =>
    rintro x c st' hax hxn ⟨q, rfl, hr', hd', hq, he⟩
    dsimp only
    have hsz : lo + nrem ≤ (arrOf st').size := by rw [hr'.size]; lia
    refine wpS_bind (wpS_ltI (hr'.kind.trans hk) (hr'.ints hI) (by lia) (by lia) ?_)
    by_cases hlt : K (arrOf st') (lo + x) < K (arrOf st') (lo + x - 1)
    · simp only [hlt, decide_true, if_true]
      have hd2 := hd'.snoc (by lia) (Int.le_of_lt hlt)
      have same : ∀ k, K (mirror (arrOf st') (lo + x - (q + 1)) (lo + x) ((lo + x - (lo + x - (q + 1))) / 2)) k = K (arrOf st') k := by
        refine K_mirror_equal (by lia) fun k k1 k2 => ?_
        have := he (k - lo) (by lia) (by lia)
        rwa [show lo + (k - lo) = k by lia] at this
      by_cases hq0 : q > 0
      · rw [if_pos hq0]
        refine wpS_bind (wpS_rev (wpS_pure ⟨0, rfl, hr'.trans (Rn.mirror_ (by lia) (by lia) (by lia)), ?_, by lia, fun i i1 i2 => by congr 1; lia⟩))
        intro i j hij hj
        show K (mirror (arrOf st') _ _ _) _ ≤ K (mirror (arrOf st') _ _ _) _
        rw [same, same]
        exact hd2 i j hij hj
      · rw [if_neg hq0]
        exact wpS_pure ⟨0, rfl, hr', hd2, by lia, fun i i1 i2 => by congr 1; lia⟩
    · simp only [hlt, decide_false, Bool.false_eq_true, if_false]
      refine wpS_bind (wpS_ltI (hr'.kind.trans hk) (hr'.ints hI) (by lia) (by lia) ?_)
      by_cases hla : K (arrOf st') (lo + x - 1) < K (arrOf st') (lo + x)
      · simp only [hla, decide_true, if_true]
        exact wpS_pure (h x q st' hr' hax (by lia) hd' hq he)
      · simp only [hla, decide_false, Bool.false_eq_true, if_false]
        have heq : K (arrOf st') (lo + x) = K (arrOf st') (lo + x - 1) := Int.le_antisymm (Int.not_lt.mp hla) (Int.not_lt.mp hlt)
        refine wpS_pure ⟨q + 1, rfl, hr', hd'.snoc (by lia) (Int.le_of_eq heq), by lia, fun i i1 i2 => ?_⟩
        rw [show lo + (x + 1) - 1 = lo + x by lia]
        by_cases hix : i = x
        · subst hix; rfl
        · rw [heq]; exact he i (by lia) (by lia)
theorem wpS_descP {st₀ st : SortSt} {lo n nrem : Nat} {Q : Option Nat → SortSt → Prop} (hr : Rn st₀ lo (lo + nrem) st) (hk : kindOf st₀ = oneType') (hI : ∀ x ∈ (arrOf st₀).toList, IsIntK x) (hs : lo + nrem ≤ (arrOf st₀).size) (hn : n + 1 ≤ nrem) (hd : Down (arrOf st) lo (n + 1))
    (h : ∀ m st', Rn st₀ lo (lo + nrem) st' → 1 ≤ m → m ≤ nrem → Up (arrOf st') lo m → Q (some m) st') : wpS (model prog w) A E s (descP lo n nrem) Q st := by
  unfold descP
  refine wpS_bind (wpS_lift (wpAny_rule ⟨rfl, ?_⟩))
  refine wpS_bind (wpS_fallP hr hk hI hs (by lia) hn hd fun m q st' hr' m1 m2 hd' hq he => ?_)
  dsimp only
  have hsz : lo + nrem ≤ (arrOf st').size := by rw [hr'.size]; lia
  by_cases hq0 : q > 0
  · rw [if_pos hq0]
    refine wpS_bind (wpS_rev (wpS_tailP (hr'.trans (Rn.mirror_ (by lia) (by lia) (by lia))) hk hI hs (by lia) m2 ?_ h))
    have same : ∀ k, K (mirror (arrOf st') (lo + m - (q + 1)) (lo + m) ((lo + m - (lo + m - (q + 1))) / 2)) k = K (arrOf st') k := by
      refine K_mirror_equal (by lia) fun k k1 k2 => ?_
      have := he (k - lo) (by lia) (by lia)
      rwa [show lo + (k - lo) = k by lia] at this
    intro i j hij hj
    show K (mirror (arrOf st') _ _ _) _ ≤ K (mirror (arrOf st') _ _ _) _
    rw [same, same]
    exact hd' i j hij hj
  · rw [if_neg hq0]
    exact wpS_tailP hr' hk hI hs (by lia) m2 hd' h
theorem wpS_countRunP {st : SortSt} {lo nrem : Nat} {Q : Option Nat → SortSt → Prop} (hk : kindOf st = oneType') (hI : ∀ x ∈ (arrOf st).toList, IsIntK x) (hs : lo + nrem ≤ (arrOf st).size) (h1 : 1 ≤ nrem)
    (h : ∀ m st', Rn st lo (lo + nrem) st' → 1 ≤ m → m ≤ nrem → Up (arrOf st') lo m → Q (some m) st') : wpS (model prog w) A E s (countRun' lo nrem) Q st := by
  rw [countRunP_eq]
  refine wpS_bind (wpS_ascP hk hI hs (Nat.le_refl 1) h1 (Up.one _ _) fun n n1 n2 hu hor => ?_)
  dsimp only
  by_cases hnn : n = nrem
  · rw [if_pos (by simpa using hnn)]
    exact wpS_pure (h n st (Rn.refl _ _ _) n1 n2 hu)
  · rw [if_neg (by simpa using hnn)]
    have hlt := hor.resolve_left hnn
    by_cases hgt : n > 1
    · rw [if_pos hgt]
      refine wpS_bind (wpS_ltI hk hI (by lia) (by lia) ?_)
      by_cases hrose : K (arrOf st) lo < K (arrOf st) (lo + n - 1)
      · simp only [hrose, decide_true, if_true]
        exact wpS_pure (h n st (Rn.refl _ _ _) n1 n2 hu)
      · simp only [hrose, decide_false, Bool.false_eq_true, if_false]
        have flat : ∀ i, i < n → K (arrOf st) (lo + i) = K (arrOf st) (lo + n - 1) := by
          intro i hi
          have a1 := hu 0 i (by lia) hi
          have a2 := hu i (n - 1) (by lia) (by lia)
          rw [Nat.add_zero] at a1
          rw [show lo + (n - 1) = lo + n - 1 by lia] at a2
          lia
        refine wpS_bind (wpS_rev (wpS_descP (Rn.mirror_ (Nat.le_refl lo) (show lo + n ≤ lo + nrem by lia) (by lia)) hk hI hs (by lia) ?_ h))
        have same : ∀ k, K (mirror (arrOf st) lo (lo + n) ((lo + n - lo) / 2)) k = K (arrOf st) k := by
          refine K_mirror_equal (by lia) fun k k1 k2 => ?_
          have := flat (k - lo) (by lia)
          rwa [show lo + (k - lo) = k by lia] at this
        intro i j hij hj
        show K (mirror (arrOf st) _ _ _) _ ≤ K (mirror (arrOf st) _ _ _) _
        rw [same, same]
        have hd : Down (arrOf st) lo n := fun i j hij hj => by rw [flat i (by lia), flat j hj]; exact Int.le_refl _
        exact hd.snoc (by lia) (Int.le_of_lt hlt) i j hij hj
    · rw [if_neg hgt]
      have : n = 1 := by lia
      subst this
      refine wpS_descP (Rn.refl _ _ _) hk hI hs (by lia) ?_ h
      have hd : Down (arrOf st) lo 1 := fun i j hij hj => by
        have e1 : i = 0 := by lia
        have e2 : j = 0 := by lia
        subst e1; subst e2; exact Int.le_refl _
      exact hd.snoc (by lia) (Int.le_of_lt hlt)

noncomputable def bsP (lo k : Nat) : StateT SortSt Sem (Option Bool × Nat × Nat) :=
  forIn [0:k] ((none, 0, k) : Option Bool × Nat × Nat) fun _ c =>
    if c.2.1 ≥ c.2.2 then pure (.done (none, c.2.1, c.2.2))
    else do
      let x ← ltAt' (lo + k) (lo + (c.2.1 + c.2.2) / 2)
      match x with
      | some less => if less = true then pure (.yield (none, c.2.1, (c.2.1 + c.2.2) / 2)) else pure (.yield (none, (c.2.1 + c.2.2) / 2 + 1, c.2.2))
      | _ => pure (.done (some false, c.2.1, c.2.2))
theorem binarySortP_eq (lo n ok : Nat) : binarySort' lo n ok = (do
    let c ← forIn [max ok 1:n] ((none, ()) : Option Bool × Unit) fun k _ => do
      let d ← bsP lo k
      match d.1 with
      | some r => pure (.done (some r, ()))
      | none => do
        moveDown' (lo + k) (lo + d.2.1)
        pure (.yield (none, ()))
    match c.1 with
    | some r => pure r
    | none => pure true) := by kernel_rfl
theorem wpS_bsP {st : SortSt} {lo k : Nat} {Q : (Option Bool × Nat × Nat) → SortSt → Prop} (hk : kindOf st = oneType') (hI : ∀ x ∈ (arrOf st).toList, IsIntK x) (hs : lo + k < (arrOf st).size) (hu : Up (arrOf st) lo k)
    (h : ∀ l, l ≤ k → (∀ i, i < l → K (arrOf st) (lo + i) ≤ K (arrOf st) (lo + k)) → (∀ i, l ≤ i → i < k → K (arrOf st) (lo + k) < K (arrOf st) (lo + i)) → Q (none, l, l) st) : wpS (model prog w) A E s (bsP lo k) Q st := by
  unfold bsP
  refine wpS_forRange (I := fun x c st' => st' = st ∧ ∃ l r, c = (none, l, r) ∧ l ≤ r ∧ r ≤ k ∧ r - l ≤ k - x ∧
      (∀ i, i < l → K (arrOf st) (lo + i) ≤ K (arrOf st) (lo + k)) ∧ (∀ i, r ≤ i → i < k → K (arrOf st) (lo + k) < K (arrOf st) (lo + i))) ?step ?fin
    ⟨rfl, 0, k, rfl, by lia, by lia, by lia, fun i hi => by lia, fun i h1 h2 => by lia⟩
  case fin =>
    rintro c st' ⟨rfl, l, r, rfl, a1, a2, a3, a4, a5⟩
    have : l = r := by lia
    subst this
    exact h l a2 a4 a5
  case step =>
    rintro x c st' _ hx ⟨rfl, l, r, rfl, a1, a2, a3, a4, a5⟩
    dsimp only
    by_cases hge : l ≥ r
    · rw [if_pos hge]
      have : l = r := by lia
      subst this
      exact wpS_pure (h l a2 a4 a5)
    · rw [if_neg hge]
      refine wpS_bind (wpS_ltI hk hI hs (by lia) ?_)
      by_cases hless : K (arrOf st') (lo + k) < K (arrOf st') (lo + (l + r) / 2)
      · simp only [hless, decide_true, if_true]
        exact wpS_pure ⟨rfl, l, _, rfl, by lia, by lia, by lia, a4, fun i i1 i2 => Int.lt_of_lt_of_le hless (hu _ _ i1 i2)⟩
      · simp only [hless, decide_false, Bool.false_eq_true, if_false]
        exact wpS_pure ⟨rfl, _, r, rfl, by lia, by lia, by lia, fun i i1 => Int.le_trans (hu i ((l + r) / 2) (by lia) (by lia)) (Int.not_lt.mp hless), a5⟩
theorem wpS_binarySortP {st₀ st : SortSt} {lo n ok hi : Nat} {Q : Bool → SortSt → Prop} (hr : Rn st₀ lo hi st) (hk : kindOf st₀ = oneType') (hI : ∀ x ∈ (arrOf st₀).toList, IsIntK x) (hs : hi ≤ (arrOf st₀).size) (hn : lo + n ≤ hi) (hok : ok ≤ n) (hu : Up (arrOf st) lo ok)
    (h : ∀ st', Rn st₀ lo hi st' → Up (arrOf st') lo n → Q true st') : wpS (model prog w) A E s (binarySort' lo n ok) Q st := by
  rw [binarySortP_eq]
  refine wpS_bind (wpS_mono (wpS_forRange (I := fun k c st' => c = (none, ()) ∧ Rn st₀ lo hi st' ∧ Up (arrOf st') lo (min k n))
    (Q := fun c st' => c = (none, ()) ∧ Rn st₀ lo hi st' ∧ Up (arrOf st') lo n) ?step ?fin ?init) ?post)
  case post =>
    rintro c st' ⟨rfl, hr', hu'⟩
    exact wpS_pure (h st' hr' hu')
  case init =>
    refine ⟨rfl, hr, fun i j hij hj => ?_⟩
    by_cases h1 : ok = 0
    · have : i = j := by lia
      subst this; exact Int.le_refl _
    · exact hu i j hij (by lia)
  case fin =>
    rintro c st' ⟨hc, hr', hu'⟩
    refine ⟨hc, hr', ?_⟩
    rwa [show min (max (max ok 1) n) n = n by lia] at hu'
  case step =>
    rintro k c st' hak hkn ⟨rfl, hr', hu'⟩
    rw [show min k n = k by lia] at hu'
    have hsz : lo + k < (arrOf st').size := by rw [hr'.size]; lia
    refine wpS_bind (wpS_bsP (hr'.kind.trans hk) (hr'.ints hI) hsz hu' fun l hl hlo hhi => ?_)
    dsimp only
    rw [moveDown'_eq]
    refine wpS_bind (wpS_modify (wpS_pure ⟨rfl, hr'.trans (Rn.bubble_ (by lia) (by lia) hsz), ?_⟩))
    rw [show min (k + 1) n = k + 1 by lia]
    intro i j hij hj
    show K (bubble (arrOf st') (lo + k) (lo + k - (lo + l))) _ ≤ K (bubble (arrOf st') (lo + k) (lo + k - (lo + l))) _
    rw [K_bubble hsz (by lia), K_bubble hsz (by lia), show lo + k - (lo + k - (lo + l)) = lo + l by lia]
    have sub : ∀ z, lo + l < lo + z → lo + z - 1 = lo + (z - 1) := fun z hz => by lia
    repeat' split
    all_goals first
      | (exfalso; lia)
      | exact Int.le_refl _
      | exact hlo _ (by lia)
      | (rw [sub _ (by lia)]; exact Int.le_of_lt (hhi _ (by lia) (by lia)))
      | exact hu' _ _ (by lia) (by lia)
      | (rw [sub _ (by lia)]; exact hu' _ _ (by lia) (by lia))
      | (rw [sub _ (by lia), sub _ (by lia)]; exact hu' _ _ (by lia) (by lia))
end
noncomputable abbrev RuS := Option Unit × Nat
noncomputable abbrev CoS := Option Unit × Unit
noncomputable def pushP (lo n : Nat) : StateT SortSt Sem (ForInStep RuS) := do
  modify fun s => setPending s ((pendingOf s).push (lo, n, 0))
  pure (.yield (none, lo + n))
noncomputable def colP (size pw : Nat) : StateT SortSt Sem CoS :=
  forIn [0:size] ((none, ()) : CoS) fun _ _ => do
    let st ← get
    match (if (pendingOf st).size > 1 then (pendingOf st)[(pendingOf st).size - 2]? else none) with
    | some (_, _, older) =>
      if older ≤ pw then pure (.done (none, ()))
      else do
        let ok ← mergeAt' ((pendingOf st).size - 2)
        if (!ok) = true then pure (.done (some (), ())) else pure (.yield (none, ()))
    | _ => pure (.done (none, ()))
noncomputable def restP (size lo n : Nat) : StateT SortSt Sem (ForInStep RuS) := do
  let st ← get
  match (pendingOf st).back? with
  | some (s1, n1, _) => do
    let c ← colP size (power' size (2 * s1 + n1) (2 * s1 + n1 + n1 + n) size)
    match c.1 with
    | some r => pure (.done (some r, lo))
    | none => do
      modify fun s => setPending s ((pendingOf s).modify ((pendingOf s).size - 1) fun (st, len, _) => (st, len, power' size (2 * s1 + n1) (2 * s1 + n1 + n1 + n) size))
      pushP lo n
  | _ => pushP lo n
noncomputable def runP (size minrun : Nat) (c : RuS) : StateT SortSt Sem (ForInStep RuS) :=
  if c.2 ≥ size then pure (.done (none, c.2))
  else do
    let f? ← countRun' c.2 (size - c.2)
    match f? with
    | some n =>
      if n < minrun then do
        liftM (rule "list.sort.binary-insertion")
        let ok ← binarySort' c.2 (min (size - c.2) minrun) n
        if (!ok) = true then pure (.done (some (), c.2)) else restP size c.2 (min (size - c.2) minrun)
      else restP size c.2 n
    | _ => pure (.done (some (), c.2))
noncomputable def nextI (p : Array (Nat × Nat × Nat)) : Nat :=
  if (if p.size - 2 > 0 then p[p.size - 2 - 1]?.map (·.2.1) else none).any (fun b => decide (b < (p[p.size - 2 + 1]?.elim 0 (·.2.1)))) = true then p.size - 2 - 1 else p.size - 2
noncomputable def endP (size : Nat) : StateT SortSt Sem CoS :=
  forIn [0:size] ((none, ()) : CoS) fun _ _ => do
    let st ← get
    if (pendingOf st).size ≤ 1 then pure (.done (none, ()))
    else do
      let ok ← mergeAt' (nextI (pendingOf st))
      if (!ok) = true then pure (.done (some (), ())) else pure (.yield (none, ()))
theorem sortRunsP_eq : sortRuns' = (do
    let st ← get
    let c ← forIn [0:(arrOf st).size] ((none, 0) : RuS) fun _ c => runP (arrOf st).size (minRun' (arrOf st).size (arrOf st).size 0) c
    match c.1 with
    | some r => pure r
    | none => do
      let d ← endP (arrOf st).size
      match d.1 with
      | some r => pure r
      | none => pure ()) := by kernel_rfl
noncomputable def offs : Nat → List (List Keyed) → List (Nat × Nat)
  | _, [] => []
  | o, g :: gs => (o, g.length) :: offs (o + g.length) gs
noncomputable def pr2 (p : Nat × Nat × Nat) : Nat × Nat := (p.1, p.2.1)
theorem offs_append : ∀ (A : List (List Keyed)) (o : Nat) (C : List (List Keyed)), offs o (A ++ C) = offs o A ++ offs (o + A.flatten.length) C
  | [], o, C => by simp [offs]
  | g :: A, o, C => by
    simp only [List.cons_append, offs, offs_append A, List.flatten_cons, List.length_append]
    rw [Nat.add_assoc]
theorem offs_length : ∀ (A : List (List Keyed)) (o : Nat), (offs o A).length = A.length
  | [], _ => rfl
  | g :: A, o => by simp only [offs, List.length_cons, offs_length A]
/-- what stands while the runs are gathered: sorted pieces, one behind the other, and the rest -/
structure PInv (T : List Keyed) (segs : List (List Keyed)) (R : List Keyed) (st : SortSt) : Prop where
  arr : (arrOf st).toList = segs.flatten ++ R
  srt : ∀ g ∈ segs, 0 < g.length ∧ g.Pairwise kle
  pend : (pendingOf st).toList.map pr2 = offs 0 segs
  kind : kindOf st = oneType'
  fail : failedOf st = none
  perm : (arrOf st).toList.Perm T
theorem PInv.len {T R : List Keyed} {segs : List (List Keyed)} {st : SortSt} (h : PInv T segs R st) : segs.flatten.length + R.length = T.length := by
  rw [← h.perm.length_eq, h.arr, List.length_append]
theorem PInv.size {T R : List Keyed} {segs : List (List Keyed)} {st : SortSt} (h : PInv T segs R st) : (arrOf st).size = T.length := by
  rw [← Array.length_toList, h.perm.length_eq]
theorem PInv.psize {T R : List Keyed} {segs : List (List Keyed)} {st : SortSt} (h : PInv T segs R st) : (pendingOf st).size = segs.length := by
  have := congrArg List.length h.pend
  rwa [List.length_map, offs_length, Array.length_toList] at this
theorem modify_pr2 (p : Array (Nat × Nat × Nat)) (i : Nat) (f : Nat × Nat × Nat → Nat × Nat × Nat) (hf : ∀ q, pr2 (f q) = pr2 q) : (p.modify i f).toList.map pr2 = p.toList.map pr2 := by
  rw [Array.toList_modify]
  refine List.ext_getElem? fun k => ?_
  rw [List.getElem?_map, List.getElem?_map, List.getElem?_modify]
  cases p.toList[k]? with
  | none => rfl
  | some q =>
    show some (pr2 (if i = k then f q else q)) = some (pr2 q)
    by_cases h : i = k
    · rw [if_pos h, hf]
    · rw [if_neg h]
section
variable {prog : Program} {w : World} {A : Around} {E : Value → Shared → Prop} {s : Shared}
theorem wpS_pmerge {T R : List Keyed} {segs : List (List Keyed)} {st : SortSt} {i : Nat} {Q : Bool → SortSt → Prop} (hP : PInv T segs R st) (hT : ∀ x ∈ T, IsIntK x) (hi : i + 1 < (pendingOf st).size)
    (h : ∀ st' segs', PInv T segs' R st' → (pendingOf st').size + 1 = (pendingOf st).size → Q true st') : wpS (model prog w) A E s (mergeAt' i) Q st := by
  have hps := hP.psize
  obtain ⟨A, g1, g2, B, rfl, hAl⟩ : ∃ A g1 g2 B, segs = A ++ g1 :: g2 :: B ∧ A.length = i := by
    refine ⟨segs.take i, segs[i]'(by lia), segs[i + 1]'(by lia), segs.drop (i + 2), ?_, by rw [List.length_take]; lia⟩
    rw [← List.drop_eq_getElem_cons (show i + 1 < segs.length by lia), ← List.drop_eq_getElem_cons (show i < segs.length by lia), List.take_append_drop]
  have hp := hP.pend
  rw [offs_append, Nat.zero_add] at hp
  simp only [offs] at hp
  obtain ⟨LA, L1, e1, e2, e3⟩ := List.map_eq_append_iff.mp hp
  obtain ⟨x1, L2, e4, e5, e6⟩ := List.map_eq_cons_iff.mp e3
  obtain ⟨x2, LB, e7, e8, e9⟩ := List.map_eq_cons_iff.mp e6
  subst e7; subst e4
  obtain ⟨x11, x12, x13⟩ := x1
  obtain ⟨x21, x22, x23⟩ := x2
  simp only [pr2, Prod.mk.injEq] at e5 e8
  obtain ⟨rfl, rfl⟩ := e5
  obtain ⟨rfl, rfl⟩ := e8
  have hLA : LA.length = i := by
    have := congrArg List.length e2
    rw [List.length_map, offs_length] at this
    lia
  have hg1 := hP.srt g1 (by simp)
  have hg2 := hP.srt g2 (by simp)
  have harr : (arrOf st).toList = A.flatten ++ g1 ++ g2 ++ (B.flatten ++ R) := by
    rw [hP.arr]
    simp only [List.flatten_append, List.flatten_cons, List.append_assoc]
  refine wpS_mergeAt (P := A.flatten) (X := g1) (Y := g2) (R := B.flatten ++ R) (pw := x13) (pw2 := x23) (na := g1.length) (nb := g2.length) hP.kind hP.fail harr (fun x hx => hT x (hP.perm.mem_iff.mp hx)) ?_ ?_ rfl rfl hg1.2 hg2.2 hg1.1 hg2.1 fun st' hm => ?_
  · rw [← Array.getElem?_toList, e1, List.getElem?_append_right (by lia), hLA, Nat.sub_self]; rfl
  · rw [← Array.getElem?_toList, e1, List.getElem?_append_right (by lia), hLA, Nat.add_sub_cancel_left]; rfl
  · obtain ⟨Z, z1, z2, z3, z4, z5, z6⟩ := hm
    have zl : Z.length = g1.length + g2.length := by rw [z2.length_eq, List.length_append]
    have hpl : (pendingOf st').toList = LA ++ (A.flatten.length, g1.length + g2.length, x13) :: LB := by
      rw [z6]
      have b1 : i + 1 < ((pendingOf st).setIfInBounds i (A.flatten.length, g1.length + g2.length, x13)).size := by rw [Array.size_setIfInBounds]; exact hi
      rw [Array.eraseIdxIfInBounds, dif_pos b1, Array.toList_eraseIdx, Array.toList_setIfInBounds, e1, List.set_append_right _ _ (by lia), hLA, Nat.sub_self, List.eraseIdx_append_of_length_le (by lia), hLA, Nat.add_sub_cancel_left]
      rfl
    refine h st' (A ++ Z :: B) ⟨?_, ?_, ?_, z4.trans hP.kind, z5.trans hP.fail, ?_⟩ ?_
    · rw [z1]
      simp only [List.flatten_append, List.flatten_cons, List.append_assoc]
    · intro g hg
      rcases List.mem_append.mp hg with hg | hg
      · exact hP.srt g (by simp [hg])
      · rcases List.mem_cons.mp hg with rfl | hg
        · exact ⟨by lia, z3⟩
        · exact hP.srt g (by simp [hg])
    · rw [hpl, List.map_append, List.map_cons, e2, e9, offs_append, Nat.zero_add]
      simp only [offs, pr2, zl, Nat.add_assoc]
    · refine List.Perm.trans ?_ hP.perm
      rw [z1, harr]
      refine List.Perm.append_right _ ?_
      rw [List.append_assoc A.flatten]
      exact List.Perm.append_left _ z2
    · have l1 := congrArg List.length hpl
      have l2 := congrArg List.length e1
      simp only [Array.length_toList, List.length_append, List.length_cons] at l1 l2
      lia
theorem wpS_colP {T R : List Keyed} {segs : List (List Keyed)} {st : SortSt} {size pw : Nat} {Q : CoS → SortSt → Prop} (hP : PInv T segs R st) (hT : ∀ x ∈ T, IsIntK x)
    (h : ∀ st' segs', PInv T segs' R st' → Q (none, ()) st') : wpS (model prog w) A E s (colP size pw) Q st := by
  unfold colP
  refine wpS_forRange (I := fun _ c st' => c = (none, ()) ∧ ∃ segs', PInv T segs' R st') ?step ?fin ⟨rfl, segs, hP⟩
  case fin =>
    rintro c st' ⟨rfl, segs', hP'⟩
    exact h st' segs' hP'
  case step =>
    rintro x c st' _ _ ⟨rfl, segs', hP'⟩
    refine wpS_bind (wpS_get ?_)
    by_cases h1 : (pendingOf st').size > 1
    · rw [if_pos h1, getElem?_pos _ _ (by omega)]
      dsimp only
      by_cases h2 : ((pendingOf st')[(pendingOf st').size - 2]'(by omega)).2.2 ≤ pw
      · rw [if_pos h2]
        exact wpS_pure (h st' segs' hP')
      · rw [if_neg h2]
        refine wpS_bind (wpS_pmerge hP' hT (by omega) fun st2 segs2 hP2 _ => ?_)
        exact wpS_pure ⟨rfl, segs2, hP2⟩
    · rw [if_neg h1]
      exact wpS_pure (h st' segs' hP')
theorem wpS_pushP {T R g : List Keyed} {segs : List (List Keyed)} {st : SortSt} {lo n : Nat} {Q : ForInStep RuS → SortSt → Prop} (hP : PInv T segs (g ++ R) st) (hlo : segs.flatten.length = lo) (hn : g.length = n) (hg : 0 < g.length) (hs : g.Pairwise kle)
    (h : ∀ st' segs', PInv T segs' R st' → segs'.flatten.length = lo + n → Q (.yield (none, lo + n)) st') : wpS (model prog w) A E s (pushP lo n) Q st := by
  unfold pushP
  refine wpS_bind (wpS_modify (wpS_pure (h _ (segs ++ [g]) ⟨?_, ?_, ?_, hP.kind, hP.fail, hP.perm⟩ ?_)))
  · show (arrOf st).toList = _
    rw [hP.arr]; simp
  · intro g' hg'
    rcases List.mem_append.mp hg' with hg' | hg'
    · exact hP.srt g' hg'
    · rw [List.mem_singleton] at hg'; subst hg'; exact ⟨hg, hs⟩
  · show ((pendingOf st).push (lo, n, 0)).toList.map pr2 = _
    rw [Array.toList_push, List.map_append, hP.pend, offs_append, Nat.zero_add, hlo, ← hn]
    rfl
  · simp [hlo, hn]
theorem wpS_restP {T R g : List Keyed} {segs : List (List Keyed)} {st : SortSt} {size lo n : Nat} {Q : ForInStep RuS → SortSt → Prop} (hP : PInv T segs (g ++ R) st) (hT : ∀ x ∈ T, IsIntK x) (hlo : segs.flatten.length = lo) (hn : g.length = n) (hg : 0 < g.length) (hs : g.Pairwise kle)
    (h : ∀ st' segs', PInv T segs' R st' → segs'.flatten.length = lo + n → Q (.yield (none, lo + n)) st') : wpS (model prog w) A E s (restP size lo n) Q st := by
  unfold restP
  refine wpS_bind (wpS_get ?_)
  split
  · refine wpS_bind (wpS_colP hP hT fun st2 segs2 hP2 => ?_)
    dsimp only
    refine wpS_bind (wpS_modify ?_)
    have e1 := hP.len
    have e2 := hP2.len
    refine wpS_pushP (segs := segs2) ⟨hP2.arr, hP2.srt, ?_, hP2.kind, hP2.fail, hP2.perm⟩ (by lia) hn hg hs h
    refine (modify_pr2 _ _ _ ?_).trans hP2.pend
    rintro ⟨_, _, _⟩; rfl
  · exact wpS_pushP hP hlo hn hg hs h
theorem PInv.run {T R : List Keyed} {segs : List (List Keyed)} {st st' : SortSt} {lo hi n : Nat} (hP : PInv T segs R st) (hr : Rn st lo hi st') (hlo : segs.flatten.length = lo) (hn : lo + n ≤ T.length) (hu : Up (arrOf st') lo n) :
    ∃ g R', PInv T segs (g ++ R') st' ∧ g.length = n ∧ g.Pairwise kle := by
  have hsz : (arrOf st').size = T.length := by rw [hr.size, hP.size]
  have et : (arrOf st').toList.take lo = segs.flatten := by
    have : (arrOf st').toList.take lo = (arrOf st).toList.take lo := by
      refine List.ext_getElem? fun k => ?_
      rw [List.getElem?_take, List.getElem?_take]
      by_cases hk : k < lo
      · rw [if_pos hk, if_pos hk, Array.getElem?_toList, Array.getElem?_toList]
        exact hr.off k (.inl hk)
      · rw [if_neg hk, if_neg hk]
    rw [this, hP.arr, ← hlo, List.take_left']
    rfl
  refine ⟨((arrOf st').toList.drop lo).take n, ((arrOf st').toList.drop lo).drop n, ⟨?_, hP.srt, ?_, hr.kind.trans hP.kind, hr.failed.trans hP.fail, ?_⟩, ?_, ?_⟩
  · rw [List.take_append_drop, ← et, List.take_append_drop]
  · rw [hr.pending]; exact hP.pend
  · exact (Array.perm_iff_toList_perm.mp hr.perm).trans hP.perm
  · rw [List.length_take, List.length_drop, Array.length_toList]; lia
  · rw [List.pairwise_iff_getElem]
    intro i j hi hj hij
    have hj2 : j < n := by rw [List.length_take] at hj; lia
    have at_ : ∀ k (hk : k < (((arrOf st').toList.drop lo).take n).length), K (arrOf st') (lo + k) = kn ((((arrOf st').toList.drop lo).take n)[k]) := by
      intro k hk
      have hk2 : lo + k < (arrOf st').size := by rw [List.length_take, List.length_drop, Array.length_toList] at hk; lia
      rw [List.getElem_take, List.getElem_drop]
      unfold K
      rw [getElem?_pos (arrOf st') (lo + k) hk2]
      rfl
    show kn _ ≤ kn _
    rw [← at_ i hi, ← at_ j hj]
    exact hu i j (Nat.le_of_lt hij) hj2
theorem wpS_runP {T R : List Keyed} {segs : List (List Keyed)} {st : SortSt} {mr lo : Nat} {Q : ForInStep RuS → SortSt → Prop} (hP : PInv T segs R st) (hT : ∀ x ∈ T, IsIntK x) (hlo : segs.flatten.length = lo)
    (h0 : T.length ≤ lo → Q (.done (none, lo)) st)
    (h : ∀ st' segs' R' n, 0 < n → PInv T segs' R' st' → segs'.flatten.length = lo + n → Q (.yield (none, lo + n)) st') : wpS (model prog w) A E s (runP T.length mr (none, lo)) Q st := by
  unfold runP
  dsimp only
  by_cases hd : lo ≥ T.length
  · rw [if_pos hd]; exact wpS_pure (h0 hd)
  · rw [if_neg hd]
    have hsz := hP.size
    have hI : ∀ x ∈ (arrOf st).toList, IsIntK x := fun x hx => hT x (hP.perm.mem_iff.mp hx)
    refine wpS_bind (wpS_countRunP hP.kind hI (by lia) (by lia) fun m st2 hr m1 m2 hu => ?_)
    dsimp only
    by_cases hm : m < mr
    · rw [if_pos hm]
      refine wpS_bind (wpS_lift (wpAny_rule ⟨rfl, ?_⟩))
      refine wpS_bind (wpS_binarySortP hr hP.kind hI (by lia) (by lia) (by lia) hu fun st3 hr3 hu3 => ?_)
      rw [if_neg (by decide)]
      obtain ⟨g, R', hg, hgl, hgs⟩ := hP.run hr3 hlo (by lia) hu3
      exact wpS_restP hg hT hlo hgl (by lia) hgs fun st4 segs4 h4 h5 => h st4 segs4 R' _ (by lia) h4 h5
    · rw [if_neg hm]
      obtain ⟨g, R', hg, hgl, hgs⟩ := hP.run hr hlo (by lia) hu
      exact wpS_restP hg hT hlo hgl (by lia) hgs fun st4 segs4 h4 h5 => h st4 segs4 R' _ (by lia) h4 h5
theorem segs_le : ∀ (segs : List (List Keyed)), (∀ g ∈ segs, 0 < g.length) → segs.length ≤ segs.flatten.length
  | [], _ => Nat.le_refl _
  | g :: segs, h => by
    have h1 := h g List.mem_cons_self
    have h2 := segs_le segs fun g' hg' => h g' (List.mem_cons_of_mem _ hg')
    simp only [List.flatten_cons, List.length_cons, List.length_append]
    lia
theorem nextI_lt (p : Array (Nat × Nat × Nat)) (h : 1 < p.size) : nextI p + 1 < p.size := by
  unfold nextI
  by_cases h0 : p.size - 2 > 0
  · rw [if_pos h0]
    split <;> omega
  · rw [if_neg h0, if_neg (by simp)]
    omega
theorem wpS_endP {T : List Keyed} {segs : List (List Keyed)} {st : SortSt} {Q : CoS → SortSt → Prop} (hP : PInv T segs [] st) (hT : ∀ x ∈ T, IsIntK x)
    (h : ∀ st', (arrOf st').toList.Perm T → (arrOf st').toList.Pairwise kle → failedOf st' = none → Q (none, ()) st') : wpS (model prog w) A E s (endP T.length) Q st := by
  have fin : ∀ (st' : SortSt) (segs' : List (List Keyed)), PInv T segs' [] st' → (pendingOf st').size ≤ 1 → Q (none, ()) st' := by
    intro st' segs' hP' hle
    refine h st' hP'.perm ?_ hP'.fail
    rw [hP'.psize] at hle
    rw [hP'.arr, List.append_nil]
    match segs', hle, hP' with
    | [], _, _ => exact List.Pairwise.nil
    | [g], _, hP' => rw [List.flatten_cons, List.flatten_nil, List.append_nil]; exact (hP'.srt g List.mem_cons_self).2
    | _ :: _ :: _, hle, _ => simp at hle
  unfold endP
  refine wpS_forRange (I := fun x c st' => c = (none, ()) ∧ ∃ segs', PInv T segs' [] st' ∧ (pendingOf st').size ≤ T.length - x) ?step ?fin ⟨rfl, segs, hP, ?init⟩
  case init =>
    have h1 := segs_le segs fun g hg => (hP.srt g hg).1
    have h2 := hP.len
    rw [hP.psize]
    simp only [List.length_nil] at h2
    lia
  case fin =>
    rintro c st' ⟨rfl, segs', hP', hle⟩
    exact fin st' segs' hP' (by lia)
  case step =>
    rintro x c st' _ hx ⟨rfl, segs', hP', hle⟩
    refine wpS_bind (wpS_get ?_)
    by_cases h1 : (pendingOf st').size ≤ 1
    · rw [if_pos h1]
      exact wpS_pure (fin st' segs' hP' h1)
    · rw [if_neg h1]
      refine wpS_bind (wpS_pmerge hP' hT (nextI_lt _ (by lia)) fun st2 segs2 hP2 hsz => ?_)
      exact wpS_pure ⟨rfl, segs2, hP2, by lia⟩
theorem wpS_sortRunsP {T : List Keyed} {st : SortSt} {Q : Unit → SortSt → Prop} (ha : (arrOf st).toList = T) (hp : pendingOf st = #[]) (hk : kindOf st = oneType') (hf : failedOf st = none) (hT : ∀ x ∈ T, IsIntK x)
    (h : ∀ st', (arrOf st').toList.Perm T → (arrOf st').toList.Pairwise kle → failedOf st' = none → Q () st') : wpS (model prog w) A E s sortRuns' Q st := by
  rw [sortRunsP_eq]
  refine wpS_bind (wpS_get ?_)
  have hsz : (arrOf st).size = T.length := by rw [← Array.length_toList, ha]
  rw [hsz]
  have h0 : PInv T [] T st := ⟨by rw [ha]; rfl, fun g hg => (nomatch hg), by rw [hp]; rfl, hk, hf, by rw [ha]⟩
  refine wpS_bind (wpS_mono (wpS_forRange (I := fun x c st' => ∃ lo segs R, c = (none, lo) ∧ x ≤ lo ∧ PInv T segs R st' ∧ segs.flatten.length = lo) (Q := fun c st' => ∃ lo segs, c = (none, lo) ∧ PInv T segs [] st') ?step ?fin ⟨0, [], T, rfl, Nat.le_refl _, h0, rfl⟩) ?post)
  case fin =>
    rintro c st' ⟨lo, segs, R, rfl, hx, hP, hl⟩
    have e := hP.len
    have : R = [] := List.length_eq_zero_iff.mp (by lia)
    subst this
    exact ⟨lo, segs, rfl, hP⟩
  case step =>
    rintro x c st' _ hx ⟨lo, segs, R, rfl, hxl, hP, hl⟩
    refine wpS_runP hP hT hl (fun hd => ?_) fun st2 segs2 R2 n hn hP2 hl2 => ⟨lo + n, segs2, R2, rfl, by lia, hP2, hl2⟩
    have e := hP.len
    have : R = [] := List.length_eq_zero_iff.mp (by lia)
    subst this
    exact ⟨lo, segs, rfl, hP⟩
  case post =>
    rintro c st' ⟨lo, segs, rfl, hP⟩
    dsimp only
    refine wpS_bind (wpS_endP hP hT fun st2 p1 p2 p3 => ?_)
    exact wpS_pure (h st2 p1 p2 p3)
end
section
variable {prog : Program} {w : World} {A : Around} {E : Value → Shared → Prop} {s : Shared}
theorem pairwise_to {xs : Array Keyed} (h : xs.toList.Pairwise kle) {n : Nat} (hn : n ≤ xs.size) : SortedTo xs n := by
  intro i j hij hj
  have at_ : ∀ k (hk : k < xs.size), K xs k = kn (xs.toList[k]'(by rw [Array.length_toList]; exact hk)) := by
    intro k hk
    unfold K
    rw [getElem?_pos xs k hk]
    rfl
  rw [at_ i (by lia), at_ j (by lia)]
  rcases Nat.lt_or_eq_of_le hij with h' | rfl
  · exact List.pairwise_iff_getElem.mp h i j _ _ h'
  · exact Int.le_refl _
theorem sort_tree_any {a : Addr} {vs : List Value} {ns : List Int} {n : Nat} {P : Fin → Shared → Prop} (ho : s.heap.get? a = some (seqObj "list" vs.toArray n))
    (hI : IntsAre vs ns) (hz : vs.length ≤ 1000000)
    (h : ∀ (out : Array Value) (ns' : List Int), IntsAre out.toList ns' → ns'.Perm ns → ns'.Pairwise (· ≤ ·) → P (.done (.ret .none)) { s with heap := sortedHeap s.heap a vs out }) :
    wpAny (model prog w) A (Builtin.«list.sort» ⟨[.ref a], []⟩) P E s := by
  rw [list_sort_plain]
  have ha : a < s.heap.objs.size := Heap.lt_size ho
  have hsz : vs.toArray.size = vs.length := by simp
  refine wpAny_bind (listItems_at ho rfl ?_)
  refine wpAny_bind (listUpdate_at ho rfl ?_ (hsz := by rw [hsz, PySem.sizeLine_eq]; lia) (hsz2 := Nat.zero_le _))
  obtain ⟨e1, ho1⟩ : ∃ e1, (s.heap.update a (Obj.mapSeq fun _ => #[])).get? a = some (seqObj "list" #[] e1) := ⟨_, get?_update_seq ho (fun _ => #[])⟩
  refine wpAny_bind (seqEpoch_at ho1 rfl ?_)
  refine wpAny_bind (wpAny_newTuple ?_ (by rw [PySem.sizeLine_eq]; simp only [Array.length_toList, List.size_toArray]; lia))
  refine wpAny_bind (wpAny_newList ?_)
  refine wpAny_holding ?_
  have ho6 : (((s.heap.update a (Obj.mapSeq fun _ => #[])).push (seqObj "tuple" vs.toArray 0)).push (seqObj "list" #[] 0)).get? a = some (seqObj "list" #[] e1) := by
    rw [Heap.get?_push_ne _ _ _ (by rw [size_push', Heap.size_update]; exact Nat.ne_of_lt (Nat.lt_succ_of_lt ha)), Heap.get?_push_ne _ _ _ (by rw [Heap.size_update]; exact Nat.ne_of_lt ha)]
    exact ho1
  show wpAny (model prog w) A _ P E { s with heap := ((s.heap.update a (Obj.mapSeq fun _ => #[])).push (seqObj "tuple" vs.toArray 0)).push (seqObj "list" #[] 0) }
  dsimp only
  have fin : ∀ st' : SortSt, (arrOf st').Perm (pairsOf vs) → SortedTo (arrOf st') (pairsOf vs).size →
      P (.done (.ret .none)) { s with heap := sortedHeap s.heap a vs ((arrOf st').map (·.2)) } := by
    intro st' hp hs
    obtain ⟨ns', h1, h2, h3⟩ := sorted_out hI hp hs
    exact h _ ns' h1 h2 h3
  by_cases h2 : vs.toArray.size < 2
  · rw [if_pos h2, if_pos h2]
    refine wpAny_bind (wpAny_pure ?_)
    rw [StateT.run_pure]
    refine wpAny_bind (wpAny_pure ?_)
    dsimp only
    refine wpAny_bind (seqEpoch_at ho6 rfl ?_)
    refine wpAny_bind (listUpdate_at ho6 rfl ?_ (hsz := Nat.zero_le _) (hsz2 := by rw [Array.size_map]; show (pairsOf vs).size ≤ _; rw [pairsOf_size, sizeLine_eq]; lia))
    simp only [bne_self_eq_false, Bool.false_eq_true, if_false]
    refine wpAny_pure (fin (SortSt.mk' general' (vs.toArray.zip vs.toArray) #[] 7 none) (Array.Perm.refl _) ?_)
    intro i j hij hj
    have : i = j := by rw [pairsOf_size] at hj; lia
    subst this; exact Int.le_refl _
  · rw [if_neg h2, if_neg h2]
    obtain ⟨v₁, v₂, rest, rfl⟩ : ∃ v₁ v₂ rest, vs = v₁ :: v₂ :: rest := by
      match vs, hsz, h2 with
      | [], _, h2 => simp at h2
      | [_], _, h2 => simp at h2
      | v₁ :: v₂ :: rest, _, _ => exact ⟨v₁, v₂, rest, rfl⟩
    rw [keyKind_ints hI]
    refine wpAny_bind (wpAny_pure ?_)
    refine wpAny_bind (wpAny_mono (wpS_sortRunsP (T := (pairsOf (v₁ :: v₂ :: rest)).toList) (st := SortSt.mk' oneType' ((v₁ :: v₂ :: rest).toArray.zip (v₁ :: v₂ :: rest).toArray) #[] 7 none)
      (Q := fun _ st' => (arrOf st').Perm (pairsOf (v₁ :: v₂ :: rest)) ∧ failedOf st' = none ∧ SortedTo (arrOf st') (pairsOf (v₁ :: v₂ :: rest)).size)
      rfl rfl rfl rfl hI.intKeys fun st' a1 a2 a3 => ?_) ?_ fun _ _ e => e)
    · have p : (arrOf st').Perm (pairsOf (v₁ :: v₂ :: rest)) := Array.perm_iff_toList_perm.mpr a1
      exact ⟨p, a3, pairwise_to a2 (Nat.le_of_eq p.size_eq.symm)⟩
    rintro ⟨⟨⟩, st'⟩ s' ⟨rfl, hp, hf, hs⟩
    dsimp only
    refine wpAny_bind (seqEpoch_at ho6 rfl ?_)
    refine wpAny_bind (listUpdate_at ho6 rfl ?_ (hsz := Nat.zero_le _) (hsz2 := by refine Nat.le_trans (Nat.le_of_eq ((Array.size_map ..).trans (hp.size_eq.trans (pairsOf_size _)))) ?_; rw [sizeLine_eq]; lia))
    rw [hf]
    simp only [bne_self_eq_false, Bool.false_eq_true, if_false]
    exact wpAny_pure (fin st' hp hs)
theorem sorted_any {l : Addr} {vs : List Value} {ns : List Int} {Q : Value → Shared → Prop} (hl : s.heap.IsList l vs.toArray) (hI : IntsAre vs ns) (hz : vs.length ≤ 1000000)
    (h : ∀ (out : Array Value) (ns' : List Int), IntsAre out.toList ns' → ns'.Perm ns → ns'.Pairwise (· ≤ ·) → Q (.ref (s.heap.objs.size + 1)) { s with heap := sortedAll s.heap vs out }) :
    wpAny (model prog w) A (call (.builtin "sorted") [.ref l]) Q E s := by
  refine Calls.call_function_entry kind_sorted plain_sorted entry_sorted (args_sorted1 _) ?_
  unfold Builtin.«sorted»
  refine wpAny_bind (m := checkCount "sorted" 1 1 _) (wpAny_pure ?_)
  refine wpAny_bind (collect_list hl ?_ (by rw [PySem.sizeLine_eq]; lia))
  refine wpAny_bind (wpAny_newList ?_ (by rw [PySem.sizeLine_eq]; lia))
  have hsz : ((s.heap.push (seqObj "list" #[] 0)).update s.heap.objs.size (Obj.mapSeq (· ++ vs.toArray))).objs.size = s.heap.objs.size + 1 := by
    rw [Heap.size_update, size_push']
  have hoL : (((s.heap.push (seqObj "list" #[] 0)).update s.heap.objs.size (Obj.mapSeq (· ++ vs.toArray))).push (seqObj "list" vs.toArray 0)).get? (s.heap.objs.size + 1) = some (seqObj "list" vs.toArray 0) := by
    rw [← hsz]; exact Heap.get?_push_size _ rfl
  show wpAny _ _ _ _ _ { s with heap := ((s.heap.push (seqObj "list" #[] 0)).update s.heap.objs.size (Obj.mapSeq (· ++ vs.toArray))).push (seqObj "list" vs.toArray 0) }
  rw [hsz]
  refine wpAny_bind (wpAny_holding (wpAny_call_entry slot_list_sort ⟨_, hoL, rfl⟩ entry_list_sort (sort_tree_any hoL hI hz fun out ns' a1 a2 a3 => ⟨_, rfl, ?_⟩) (args_list_sort _)))
  exact wpAny_pure ⟨_, rfl, h out ns' a1 a2 a3⟩
theorem sorted_led {h₀ : Heap} {L : Addr} {m : Str → Option Value} {news : List (Addr × Obj)} {l : Addr} {vs : List Value} {k : Nat} {ns : List Int} {Q : Value → Shared → Prop}
    (F : Fr h₀ L s.heap m) (N : News h₀ L s.heap news) (hm : (l, listOf vs.toArray k) ∈ news) (hI : IntsAre vs ns) (hz : ns.length ≤ 1000000)
    (h : ∀ (D : Addr) (h' : Heap) (vs' : List Value) (ns' : List Int) (e : Nat), Fr h₀ L h' m → News h₀ L h' ((D, listOf vs'.toArray e) :: news) → (∀ q ∈ news, q.1 < D) →
      IntsAre vs' ns' → ns'.length = ns.length → ns'.Perm ns → ns'.Pairwise (· ≤ ·) → Q (.ref D) { s with heap := h' }) :
    wpAny (model prog w) A (call (.builtin "sorted") [.ref l]) Q E s := by
  refine sorted_any (isl N hm) hI (by rw [hI.length]; exact hz) fun out ns' a1 a2 a3 => ?_
  obtain ⟨e, he⟩ := sortedAll_at s.heap vs out
  exact h _ _ out.toList ns' e (F.kept fun _ _ => sortedAll_old) (N.kept_cons F (fun _ _ => sortedAll_old) (Nat.le_succ _) he) (fun p hp => Nat.lt_succ_of_lt (Heap.lt_size (N p hp).1)) a1 a2.length_eq a2 a3
end
theorem words_9 : True := by
  (k_with "call builtin:sorted" => (k_here; (with_reducible show wpAny _ _ (call (Value.builtin "sorted") [Value.ref _]) _ _ _); k_dflt (refine sorted_led (by k_asm) (by k_asm) (by k_mem) (by first | assumption | l_ints) (by omega) ?_; k_whole); intro D9 h9 vs9 ns9 e9 F9 N9 lt9 hI9 hL9 hP9 hS9; (try k_lt lt9)))
  trivial
/-- the ledger bears the row r at v -/
noncomputable def RowAt (led : List (Addr × Obj)) (v : Value) (r : List Int) : Prop := ∃ (a : Addr) (vs : List Value) (k : Nat), v = .ref a ∧ (a, listOf vs.toArray k) ∈ led ∧ IntsAre vs r
theorem take_flatten_le (rows : List (List Int)) (i : Nat) : (rows.take i).flatten.length ≤ rows.flatten.length := by
  conv => rhs; rw [← List.take_append_drop i rows, List.flatten_append, List.length_append]
  lia
theorem flatten_snoc {rows : List (List Int)} {i : Nat} {r : List Int} (h : rows[i]? = some r) : (rows.take (i + 1)).flatten = (rows.take i).flatten ++ r := by
  rw [List.take_add_one, h, List.flatten_append]
  simp
theorem lastI_snoc (l : List Int) (x : Int) : lastI (l ++ [x]) = x := by
  unfold lastI
  rw [List.getLast?_append]
  rfl
theorem filt_ne {led : List (Addr × Obj)} {D9 D0 l0 pl I : Nat} {o1 o2 o3 o4 : Obj} (h : @LT.lt Nat instLTNat D9 I) (a : @LT.lt Nat instLTNat D0 D9) (b : @LT.lt Nat instLTNat l0 D9) (c : @LT.lt Nat instLTNat pl D9) (d : AllLt D9 led) :
    ∀ p ∈ (D9, o1) :: (D0, o2) :: (l0, o3) :: (pl, o4) :: led, p.1 ≠ I := by
  have dl := d
  intro p hp
  simp only [List.mem_cons] at hp
  rcases hp with rfl | rfl | rfl | rfl | hp
  · exact Nat.ne_of_lt h
  · exact Nat.ne_of_lt (Nat.lt_trans a h)
  · exact Nat.ne_of_lt (Nat.lt_trans b h)
  · exact Nat.ne_of_lt (Nat.lt_trans c h)
  · exact Nat.ne_of_lt (Nat.lt_trans (tb_ltOf dl p hp) h)
theorem filter_spec {w : World} {mean : ExcName → Option Value} {mg mb : Str → Option Value} {led : List (Addr × Obj)} (rl : Addr) (k : Nat) (rv : List Value) (rows : List (List Int)) (hm : (rl, listOf rv.toArray k) ∈ led) (hrl : rv.length = rows.length) (hrows : ∀ (i : Nat) v r, rv[i]? = some v → rows[i]? = some r → RowAt led v r)
    (oc p : Int) (to tp : Tok) (ho0 : 0 < oc) (ho : oc ≤ 100000) (hp0 : 0 ≤ p) (hp : p < 256) (hin : ∀ x ∈ rows.flatten, 0 ≤ x ∧ x < 8 * oc) (hfl : rows.flatten.length ≤ 100000) :
    Pure1 w mean mg mb led 1 150 [.ref rl, .int oc to, .int p tp] (fun t => .bytes (bytesOf (filterK rows.flatten oc.toNat p)) t) := by
  intro dp un gd cn cs a ccd cl outer A₀ base h₀ L m s Q E B F X N T hk hdp hun R
  refine wpAny_call ?_
  k_dflt (refine' code_def (binds := [(Str.ofString "rows", .ref rl), (Str.ofString "octets", .int oc to), (Str.ofString "probes", .int p tp)]) ?k1 ?k2 ?k3 ?k4 ?k5 ?kA ?kF ?kK ?k6 ?k7 ?k8 ?k9 ?kB ?_ ?c2 ?c3 ?c4 ?c5; (case kA => exact rfl); (case kF => exact rfl); (case kK => assumption); (case k1 => k_asm); (case k2 => k_asm); (case k3 => k_asm); (case k4 => k_asm); (case k5 => k_asm); (case k6 => k_is); (case k7 => k_is); (case k8 => ktr_room); (case k9 => exact BindsTo.of_eq rfl); (case c5 => decide); (case kB => exact locs rfl); (case c2 => exact rfl); (case c3 => exact rfl); (case c4 => exact rfl); k_whole; intro g' L' h' FG' F' N' B' X' T'; (try dsimp only); (try k_lift B'); (try k_fold))
  k_extra "m steps"
  rename Fr _ _ _ _ => F1
  rename News _ _ _ _ => N1
  rename (∀ p ∈ led, p.1 < _) => l1
  rename_i pl _ _
  refine iter_listUnr rfl F1 N1 (.tail _ hm) rfl rfl ?_
  intro I lI
  replace lI : @LT.lt Nat instLTNat pl I := lI _ (List.Mem.head _)
  refine list_ind (vs := rv) (fun i m news => ∃ (vs : List Value) (j : Nat), news = (pl, listOf vs.toArray j) :: led ∧ IntsAre vs (rows.take i).flatten ∧
    m (Str.ofString "places") = some (.ref pl) ∧ m (Str.ofString "octets") = some (.int oc to) ∧ m (Str.ofString "probes") = some (.int p tp)) ?_ ?_ _ 0 _ _ rfl ?_ (Nat.zero_le _)
  · rintro i v m1 news1 it h1 tk1 hv ⟨vs, j, rfl, hvs, mp, mo, mb⟩ hc F2 N2
    have hir : i < rows.length := by
      have := (List.getElem?_eq_some_iff.mp hv).1
      lia
    obtain ⟨a2, vs2, k2, rfl, hm2, hI2⟩ := hrows i v rows[i] hv (List.getElem?_eq_getElem hir)
    replace F2 := knowsS F2 (kcons mp (kcons mo (kcons mb knil)))
    have hl1 := hvs.length
    have hl2 := hI2.length
    have hl3 := take_flatten_le rows i
    have hl4 := take_flatten_le rows (i + 1)
    rw [flatten_snoc (List.getElem?_eq_getElem hir), List.length_append] at hl4
    k_extra "m steps"
    rename News _ _ _ _ => N9
    rename Fr _ _ _ _ => F9
    refine UnrEnd.intro F9 N9 _ (fun p hp => hp) (cons_ne lI l1) ⟨.tail _ hm, _, _, rfl, ?_, rfl, rfl, rfl⟩
    rw [flatten_snoc (List.getElem?_eq_getElem hir)]
    exact IntsAre.append hvs hI2
  · rintro m1 news1 h1 tk1 ⟨vs, j, rfl, hvs, mp, mo, mb⟩ F2 N2
    rw [List.take_of_length_le (by lia)] at hvs
    replace F2 := knows F2 (kcons mp (kcons mo (kcons mb knil)))
    have hl1 := hvs.length
    clear F1 N1
    k_extra "m steps"
    rename_i l0 _ _ _ _ D0 _ _ _ i1 n1 s1 e1 e2 e3 l2 _ _ _ _
    rename Fr _ _ _ _ => F3
    rename News _ _ _ _ => N3
    obtain ⟨l3a, l3b, l3c, l3d⟩ := lt9
    have hl9 := hI9.length
    have eo : ((oc.toNat : Nat) : Int) = oc := Int.toNat_of_nonneg (Int.le_of_lt ho0)
    refine iter_listUnr rfl F3 N3 (.head _) rfl rfl ?_
    intro I3 lI3
    replace lI3 : @LT.lt Nat instLTNat D9 I3 := lI3 _ (List.Mem.head _)
    refine list_ind (vs := vs9) (fun i m news => ∃ (o0 : Obj) (ws : List Value) (n2 : Nat) (bt : Tok), news = (D9, listOf vs9.toArray e9) :: (D0, listOf ws.toArray n2) :: (l0, o0) :: (pl, listOf vs.toArray j) :: led ∧ IntsAre ws (litK (ns9.take i) oc.toNat) ∧
      m (Str.ofString "before") = some (.int (lastI (ns9.take i)) bt) ∧ m (Str.ofString "lit") = some (.ref D0) ∧ m (Str.ofString "probes") = some (.int p tp)) ?_ ?_ _ 0 _ _ rfl ?_ (Nat.zero_le _)
    · rintro i v m3 news3 it3 h3 tk3 hv ⟨o0, ws, n2, bt, rfl, hws, mb3, ml3, mp3⟩ hc3 F4 N4
      replace F4 := knowsS F4 (kcons mb3 (kcons ml3 (kcons mp3 knil)))
      have hi9 : i < ns9.length := by
        have := (List.getElem?_eq_some_iff.mp hv).1
        lia
      obtain ⟨x, hx⟩ : ∃ x, ns9[i]? = some x := ⟨_, List.getElem?_eq_getElem hi9⟩
      obtain ⟨xt, hxv⟩ := hI9.get i x hx
      obtain rfl : v = .int x xt := by rw [hv] at hxv; exact Option.some.inj hxv
      have hx2 := hin x (hP9.mem_iff.mp (List.mem_of_getElem? hx))
      have htk : ns9.take (i + 1) = ns9.take i ++ [x] := by rw [List.take_add_one, hx]; rfl
      have hll := litK_length (ns9.take i) oc.toNat
      clear F3 N3
      k_extra "m steps"
      · rename News _ _ _ _ => N9
        rename Fr _ _ _ _ => F9
        rename IntsAre _ (List.set _ _ _) => hi5
        rename x ≠ _ => hne
        have hla := litK_add (n := oc.toNat) hx2.1 (by lia) (not_mem_of_last (by rw [← htk]; exact List.Pairwise.sublist (List.take_sublist ..) hS9) hne)
        rw [← fdiv8, ← fmod8] at hla
        rw [hla, ← htk] at hi5
        refine UnrEnd.intro F9 N9 _ (fun p hp => hp) ?_ ⟨.head _, _, _, _, xt, rfl, hi5, ?_, rfl, rfl⟩
        · exact filt_ne lI3 l3a l3b l3c l3d
        · rw [htk, lastI_snoc]; rfl
      · rename News _ _ _ _ => N9
        rename Fr _ _ _ _ => F9
        rename x = _ => hne
        rw [litK_same (mem_of_last hne hx2.1), ← htk] at hws
        refine UnrEnd.intro F9 N9 _ (fun p hp => hp) ?_ ⟨.head _, _, _, _, xt, rfl, hws, ?_, rfl, rfl⟩
        · exact filt_ne lI3 l3a l3b l3c l3d
        · rw [htk, lastI_snoc]; rfl
    · rintro m3 news3 h3 tk3 ⟨o0, ws, n2, bt, rfl, hws, mb3, ml3, mp3⟩ F4 N4
      replace F4 := knows F4 (kcons mb3 (kcons ml3 (kcons mp3 knil)))
      rw [List.take_of_length_le (by lia), litK_congr (fun x => hP9.mem_iff)] at hws
      clear F3 N3
      have hll := litK_length rows.flatten oc.toNat
      have hfr : ∀ n ∈ filterK rows.flatten oc.toNat p, 0 ≤ n ∧ n < 256 := by
        intro n hn
        rcases List.mem_append.mp hn with hn | hn
        · exact litK_in _ _ n hn
        · rw [List.mem_singleton] at hn; lia
      have hfl2 : (filterK rows.flatten oc.toNat p).length = oc.toNat + 1 := by
        unfold filterK
        rw [List.length_append, hll]; rfl
      k_extra "m steps"
      rename News _ _ _ _ => kN
      rename Fr _ _ _ _ => kF
      have hq := R
      refine R _ _ _ kF (news_sub kN fun p hp => ?_)
      exact .tail _ (.tail _ (.tail _ (.tail _ (.tail _ (.tail _ hp)))))
    · refine ⟨_, _, 0, _, rfl, ?_, rfl, rfl, rfl⟩
      rw [List.take_zero, litK_nil]
      exact i1
  · exact ⟨[], _, rfl, .nil, rfl, rfl, rfl⟩
/-- how many probes a filter of so many bits a key makes -/
noncomputable def probesK (bits : Int) : Int := if bits * 69 / 100 < 1 then 1 else if 30 < bits * 69 / 100 then 30 else bits * 69 / 100
theorem probesK_range (bits : Int) : 1 ≤ probesK bits ∧ probesK bits ≤ 30 := by
  unfold probesK
  split
  · decide
  · split
    · decide
    · omega
/-- the dict of a Bloom -/
noncomputable abbrev bloomDict (w : World) (bits probes : Int) (k1 t1 k2 t2 : Tok) : Obj :=
  dictOf [{ hash := PyData.keyHash w.params (Str.ofString "bits"), key := .str (Str.ofString "bits") k1, val := .int bits t1 },
    { hash := PyData.keyHash w.params (Str.ofString "probes"), key := .str (Str.ofString "probes") k2, val := .int probes t2 }] 2
theorem bloom_spec {w : World} {mean : ExcName → Option Value} {mg mb : Str → Option Value} {led : List (Addr × Obj)} (bits : Int) (tb : Tok) (hb0 : 1 ≤ bits) (hb : bits ≤ 100000) :
    Spec1 w mean mg mb led 2 120 [.int bits tb] (fun v own => ∃ (x d : Addr) (k1 t1 k2 t2 : Tok), v = .ref x ∧ own = [(x, instObj 120 d), (d, bloomDict w bits (probesK bits) k1 t1 k2 t2)] ∧ @LT.lt Nat instLTNat d x) := by
  intro dp un gd cn cs a ccd cl outer A₀ base h₀ L m s Q E B F X N T hk hdp hun R
  k_dflt (refine' call_cls ?k1 ?k2 ?k3 ?k4 ?k5 ?k6 ?_; (case k1 => k_asm); (case k2 => k_asm); (case k3 => k_asm); (case k4 => k_is); (case k5 => k_is); (case k6 => k_is); k_whole)
  intro xS dS hS FS NS lS lS2
  replace lS2 : @LT.lt Nat instLTNat dS xS := lS2
  k_dflt (refine' code_def (binds := [(Str.ofString "self", .ref xS), (Str.ofString "bits", .int bits tb)]) ?k1 ?k2 ?k3 ?k4 ?k5 ?kA ?kF ?kK ?k6 ?k7 ?k8 ?k9 ?kB ?_ ?c2 ?c3 ?c4 ?c5; (case kA => exact rfl); (case kF => exact rfl); (case kK => assumption); (case k1 => k_asm); (case k2 => k_asm); (case k3 => k_asm); (case k4 => k_asm); (case k5 => k_asm); (case k6 => k_is); (case k7 => k_is); (case k8 => ktr_room); (case k9 => exact BindsTo.of_eq rfl); (case c5 => decide); (case kB => exact locs rfl); (case c2 => exact rfl); (case c3 => exact rfl); (case c4 => exact rfl); k_whole; intro g' L' h' FG' F' N' B' X' T'; (try dsimp only); (try k_lift B'); (try k_fold))
  have hne : ∀ {o1 o2 : Obj}, ∀ p ∈ [(xS, o1), (dS, o2)], ∀ q ∈ led, p.1 ≠ q.1 := by
    intro o1 o2 p hp q hq
    have h1 := lS q hq
    simp only [List.mem_cons, List.not_mem_nil, or_false] at hp
    rcases hp with rfl | rfl
    · exact Nat.ne_of_gt (Nat.lt_trans h1 lS2)
    · exact Nat.ne_of_gt h1
  have e100 : (bits * 69).fdiv 100 = bits * 69 / 100 := Int.fdiv_eq_ediv_of_nonneg _ (by decide)
  have hpk : probesK bits = if bits * 69 / 100 < 1 then 1 else if 30 < bits * 69 / 100 then 30 else bits * 69 / 100 := rfl
  k_extra "m steps"
  · rename News _ _ _ _ => kN
    rename Fr _ _ _ _ => kF
    rename _ < 1 => h1
    rw [e100] at h1
    rw [if_pos h1] at hpk
    rw [hpk] at R
    exact R _ _ _ _ ⟨_, _, _, _, _, _, rfl, rfl, lS2⟩ kF kN hne
  · rename News _ _ _ _ => kN
    rename Fr _ _ _ _ => kF
    rename ¬ _ < 1 => h1
    rename 30 < _ => h2
    rw [e100] at h1 h2
    rw [if_neg h1, if_pos h2] at hpk
    rw [hpk] at R
    exact R _ _ _ _ ⟨_, _, _, _, _, _, rfl, rfl, lS2⟩ kF kN hne
  · rename News _ _ _ _ => kN
    rename Fr _ _ _ _ => kF
    rename ¬ _ < 1 => h1
    rename ¬ 30 < _ => h2
    rw [e100] at h1 h2
    rw [if_neg h1, if_neg h2, ← e100] at hpk
    rw [hpk] at R
    exact R _ _ _ _ ⟨_, _, _, _, _, _, rfl, rfl, lS2⟩ kF kN hne
theorem turn_of {h : Int} (h0 : 0 ≤ h) (h1 : h < 4294967296) : Builtin.bitAnd (Builtin.bitOr (h.fdiv (2 ^ Int.toNat 17)) (h * 2 ^ Int.toNat 15)) 4294967295 = turnK h := by
  have f17 : Int.toNat 17 = 17 := rfl
  have f15 : Int.toNat 15 = 15 := rfl
  rw [f17, f15, Int.fdiv_eq_ediv_of_nonneg _ (by decide), show (2 : Int) ^ 17 = 131072 from by decide]
  have e := or_low (a := h / 131072) (b := h) 15 (by lia) (by lia) h0
  rw [e, bitAnd_W, show (2 : Int) ^ 15 = 32768 from by decide]
  unfold turnK
  lia
theorem turnK_range {h : Int} (h0 : 0 ≤ h) (h1 : h < 4294967296) : 0 ≤ turnK h ∧ turnK h < 4294967296 := by unfold turnK; lia
/-- the hash after i turns -/
noncomputable def stepK (h : Int) (i : Nat) : Int := (h + (i : Int) * turnK h) % 4294967296
theorem stepK_range (h : Int) (i : Nat) : 0 ≤ stepK h i ∧ stepK h i < 4294967296 := by unfold stepK; lia
theorem stepK_zero {h : Int} (h0 : 0 ≤ h) (h1 : h < 4294967296) : stepK h 0 = h := by unfold stepK; lia
theorem stepK_succ (h : Int) (i : Nat) : Builtin.bitAnd (stepK h i + turnK h) 4294967295 = stepK h (i + 1) := by
  rw [bitAnd_W]
  unfold stepK
  have : ((i + 1 : Nat) : Int) * turnK h = (i : Int) * turnK h + turnK h := by rw [Int.natCast_add, Int.add_mul]; simp
  lia
/-- whether all of a key's lamps are lit -/
noncomputable def mayK (P ks : List Int) (p : Nat) (wd : Int) : Bool := (spotsK ks p wd).all fun y => decide (y ∈ P)
noncomputable def MayJ (hb : Array UInt8) (ht : Tok) (ks P : List Int) (oc : Int) (led : List (Addr × Obj)) (i : Nat) (m : Str → Option Value) (news : List (Addr × Obj)) : Prop :=
  news = led ∧ IsI m (Str.ofString "h") (stepK (hashK ks) i) ∧ IsI m (Str.ofString "delta") (turnK (hashK ks)) ∧ IsI m (Str.ofString "wide") (8 * oc) ∧ m (Str.ofString "held") = some (.bytes hb ht) ∧
    ∀ q, q < i → spotK (hashK ks) (8 * oc) q ∈ P
theorem may_spec {w : World} {mean : ExcName → Option Value} {mg mb : Str → Option Value} {led : List (Addr × Obj)} (x : Addr) (kb hb : Array UInt8) (kt ht : Tok) (ks P : List Int) (oc p : Int) (hks : KBw.bInts kb = ks) (hkl : ks.length ≤ 1000) (hhb : KBw.bInts hb = filterK P oc.toNat p) (ho0 : 0 < oc) (ho : oc ≤ 100000) (hp0 : 1 ≤ p) (hp : p ≤ 30) :
    Pure1 w mean mg mb led 3 117 [.ref x, .bytes kb kt, .bytes hb ht] (fun _ => .bool (mayK P ks p.toNat (8 * oc))) := by
  intro dp un gd cn cs a ccd cl outer A₀ base h₀ L m s Q E B F X N T hk hdp hun R
  have hfl : (filterK P oc.toNat p).length = oc.toNat + 1 := by unfold filterK; rw [List.length_append, litK_length]; rfl
  have hfp : (filterK P oc.toNat p).getD oc.toNat 0 = p := by
    unfold filterK
    rw [List.getD_eq_getElem?_getD, List.getElem?_append_right (by rw [litK_length]; exact Nat.le_refl _), litK_length, Nat.sub_self]
    rfl
  have hfq : (filterK P oc.toNat p).getD (((filterK P oc.toNat p).length : Int) - 1).toNat 0 = p := by
    rw [hfl, show (((oc.toNat + 1 : Nat) : Int) - 1).toNat = oc.toNat by lia, hfp]
  have hhr := hashK_range ks
  refine wpAny_call ?_
  k_dflt (refine' code_def (binds := [(Str.ofString "self", .ref x), (Str.ofString "key", .bytes kb kt), (Str.ofString "held", .bytes hb ht)]) ?k1 ?k2 ?k3 ?k4 ?k5 ?kA ?kF ?kK ?k6 ?k7 ?k8 ?k9 ?kB ?_ ?c2 ?c3 ?c4 ?c5; (case kA => exact rfl); (case kF => exact rfl); (case kK => assumption); (case k1 => k_asm); (case k2 => k_asm); (case k3 => k_asm); (case k4 => k_asm); (case k5 => k_asm); (case k6 => k_is); (case k7 => k_is); (case k8 => ktr_room); (case k9 => exact BindsTo.of_eq rfl); (case c5 => decide); (case kB => exact locs rfl); (case c2 => exact rfl); (case c3 => exact rfl); (case c4 => exact rfl); k_whole; intro g' L' h' FG' F' N' B' X' T'; (try dsimp only); (try k_lift B'); (try k_fold))
  k_extra "m steps"
  rename Fr _ _ _ _ => F1
  rename News _ _ _ _ => N1
  rename IsRange _ _ _ _ _ _ _ _ => R1
  rw [hfq] at R1
  have ep : ((p.toNat : Nat) : Int) = p := Int.toNat_of_nonneg (by lia)
  refine krs_iter (n := p.toNat) rfl R1 (small_of (by lia) (by lia) (by lia) (by lia) (by lia) (by lia)) (by rw [← ep]; exact range1 _) F1 N1 ?_
  intro I lI
  obtain ⟨J, hJ⟩ : ∃ J, J = MayJ hb ht ks P oc led := ⟨_, rfl⟩
  refine krs_ind J ?_ ?_ _ _ _ _ (Nat.zero_add _) ?_
  · rintro i m1 news1 t1 h1 tk1 hi hJ1 F2 N2
    rw [hJ] at hJ1
    obtain ⟨rfl, ⟨th, mh⟩, ⟨td, md⟩, ⟨tw, mw⟩, mhe, hall⟩ := hJ1
    replace F2 := knowsS F2 (kcons mh (kcons md (kcons mw (kcons mhe knil))))
    clear F1 N1 R1
    have hsr := stepK_range (hashK ks) i
    have hpl0 : 0 ≤ stepK (hashK ks) i % (8 * oc) := Int.emod_nonneg _ (by lia)
    have hpl1 : stepK (hashK ks) i % (8 * oc) < 8 * oc := Int.emod_lt_of_pos _ (by lia)
    have efm : (stepK (hashK ks) i).fmod (8 * oc) = stepK (hashK ks) i % (8 * oc) := Int.fmod_eq_emod_of_nonneg _ (by lia)
    iterate 6 k_extra "m steps 1"
    rw [efm]
    generalize hpl : stepK (hashK ks) i % (8 * oc) = y at hpl0 hpl1 ⊢
    have hsp : spotK (hashK ks) (8 * oc) i = y := hpl
    have eb : Builtin.bitAnd ((filterK P oc.toNat p).getD (y.fdiv 8).toNat 0) (1 * 2 ^ (y.fmod 8).toNat) = if y ∈ P then 2 ^ (y % 8).toNat else 0 := by
      rw [fdiv8, fmod8, ← octI_and hpl0, ← litK_getD P (n := oc.toNat) (by lia)]
      unfold filterK
      rw [List.getD_eq_getElem?_getD, List.getElem?_append_left (by rw [litK_length]; lia), ← List.getD_eq_getElem?_getD]
    repeat ((fail_if_success (rw [eb])); k_extra "m steps 1")
    rw [eb]
    by_cases hyP : y ∈ P
    · rw [if_pos hyP]
      have hz0 : (0 : Int) < 2 ^ (y % 8).toNat := Int.pow_pos (by decide)
      generalize (2 : Int) ^ (y % 8).toNat = z at hz0 ⊢
      k_extra "m steps"
      · lia
      · rename News _ _ _ _ => N9
        rename Fr _ _ _ _ => F9
        refine UnrEnd.intro F9 N9 _ (fun p hp => hp) ?_ ?_
        · intro q hq
          exact (Nat.ne_of_lt (lI _ hq))
        · rw [hJ]
          refine ⟨rfl, isI rfl (stepK_succ _ _), isI rfl rfl, isI rfl rfl, rfl, fun q hq => ?_⟩
          rcases Nat.lt_succ_iff_lt_or_eq.mp hq with hq | rfl
          · exact hall q hq
          · rw [hsp]; exact hyP
    · rw [if_neg hyP]
      k_extra "m steps"
      rename News _ _ _ _ => kN
      rename Fr _ _ _ _ => kF
      have em : mayK P ks p.toNat (8 * oc) = false := by
        unfold mayK
        rw [List.all_eq_false]
        refine ⟨y, ?_, by simpa using hyP⟩
        unfold spotsK
        exact List.mem_map.mpr ⟨i, List.mem_range.mpr hi, hsp⟩
      rw [em] at R
      exact R ht _ _ kF (news_sub kN fun p hp => .tail _ hp)
  · intro m1 news1 h1 tk1 hJ1 F2 N2
    rw [hJ] at hJ1
    obtain ⟨rfl, ⟨th, mh⟩, ⟨td, md⟩, ⟨tw, mw⟩, mhe, hall⟩ := hJ1
    clear F1 N1 R1
    k_extra "m steps"
    rename News _ _ _ _ => kN
    rename Fr _ _ _ _ => kF
    have em : mayK P ks p.toNat (8 * oc) = true := by
      unfold mayK
      rw [List.all_eq_true]
      intro y hy
      unfold spotsK at hy
      obtain ⟨q, hq, rfl⟩ := List.mem_map.mp hy
      exact decide_eq_true (hall q (List.mem_range.mp hq))
    rw [em] at R
    exact R ht _ _ kF kN
  · rw [hJ]
    exact ⟨rfl, isI rfl (stepK_zero hhr.1 hhr.2).symm, isI rfl (turn_of hhr.1 hhr.2), isI rfl (by rw [hfl]; lia), rfl, fun q hq => absurd hq (Nat.not_lt_zero _)⟩
section
variable {α : Type} {M : Model} {A : Around} {E : Value → Shared → Prop} {s : Shared} {env : Env}
theorem wpG.onRaise {m : Sem α} {k : Value → Sem Unit} {Q : α → Shared → Prop} (h : wpG M A m Q (fun e s' => wpAny M A (k e) (fun _ s'' => E e s'') E s') s) : wpG M A (m.onRaise k) Q E s := fun Γ p a b c => by
  rw [Sem.wp_onRaise]
  exact Sem.wp_mono M Γ m (fun _ _ _ h' => h') (fun e p' s' h' => h' Γ p' a) p s (h Γ p a b c)
theorem execs_wp (Γ : Ctx) (post : List Stmt) (Q : Flow → Pos → Shared → Prop) (E : Value → Pos → Shared → Prop) : ∀ (pre : List Stmt) (p : Pos) (s : Shared),
    Sem.wp M Γ (execs pre env) (fun f p' s' => match f with | .next => Sem.wp M Γ (execs post env) Q E p' s' | f => Q f p' s') E p s → Sem.wp M Γ (execs (pre ++ post) env) Q E p s
  | [], p, s, h => h
  | st :: pre, p, s, h => by
    have h : Sem.wp M Γ (exec st env >>= fun f => match f with | .next => execs pre env | f => pure f) (fun f p' s' => match f with | .next => Sem.wp M Γ (execs post env) Q E p' s' | f => Q f p' s') E p s := h
    show Sem.wp M Γ (exec st env >>= fun f => match f with | .next => execs (pre ++ post) env | f => pure f) Q E p s
    rw [Sem.wp_bind'] at h ⊢
    refine Sem.wp_mono M Γ _ (fun f p' s' q => ?_) (fun _ _ _ q => q) p s h
    cases f with
    | next => exact execs_wp Γ post Q E pre p' s' q
    | _ => exact q
/-- a row of statements: the first ones walked, the others over the contexts without decoders -/
theorem execs_G {pre post : List Stmt} {Q : Flow → Shared → Prop} (h : wpAny M A (execs pre env) (fun f s' => match f with | .next => wpG M A (execs post env) Q E s' | f => Q f s') E s) : wpG M A (execs (pre ++ post) env) Q E s := fun Γ p a b c => by
  refine execs_wp Γ post _ _ pre p s (Sem.wp_mono M Γ _ (fun f p' s' q => ?_) (fun _ _ _ q => q) p s (h Γ p a))
  cases f with
  | next => exact q Γ p' a b c
  | _ => exact q
/-- one statement over the contexts without decoders, the rest walked -/
theorem exec1_G {st : Stmt} {post : List Stmt} {Q : Flow → Shared → Prop} (h : wpG M A (exec st env) (fun f s' => match f with | .next => wpG M A (execs post env) Q E s' | f => Q f s') E s) : wpG M A (execs (st :: post) env) Q E s := by
  show wpG M A (exec st env >>= fun f => match f with | .next => execs post env | f => pure f) Q E s
  refine wpG.bind (wpG.mono h (fun f s' q => ?_) fun _ _ q => q)
  cases f with
  | next => exact q
  | _ => exact wpG.of (wpAny_pure q)
theorem assign_G {x : Str} {pos' pos : Pos} {e : PySem.Expr} {Q : Flow → Shared → Prop} (h : wpG M A (eval e env) (fun v s' => wpAny M A (bindName env x v) (fun _ => Q .next) E s') E s)
    (hs : swapsWith e (some (.Name x pos')) pos.line env = pure false := by rfl) : wpG M A (exec (.Assign [.Name x pos'] e pos) env) Q E s := by
  rw [exec_Assign_Name _ _ _ _ _ hs]
  refine wpG.pre (wpAny_standAt ?_)
  refine wpG.bind (wpG.mono h (fun v s' q => ?_) fun _ _ q => q)
  exact wpG.of (wpAny_bind (wpAny_standAt (wpAny_bind (wpAny_mono q (fun _ _ q => wpAny_pure q) fun _ _ q => q))))
theorem if_G {t : PySem.Expr} {body orelse : List Stmt} {pos : Pos} {Q : Flow → Shared → Prop} (h : wpAny M A (isTrue t env (eval t env)) (fun b s' => if b then wpG M A (execs body env) Q E s' else wpG M A (execs orelse env) Q E s') E s) : wpG M A (exec (.If t body orelse pos) env) Q E s := by
  rw [exec_If]
  refine wpG.pre (wpAny_standAt (wpG.pre (wpAny_mono h (fun b s' q => ?_) fun _ _ q => q)))
  cases b <;> exact q
theorem ret_G {pos : Pos} {e : PySem.Expr} {Q : Flow → Shared → Prop} (h : wpG M A (eval e env) (fun v => Q (.ret v)) E s) : wpG M A (exec (.Return (some e) pos) env) Q E s := by
  rw [exec_Return_some]
  exact wpG.pre (wpAny_standAt (wpG.bind (wpG.mono h (fun v s' q => wpG.of (wpAny_pure q)) fun _ _ q => q)))
theorem cmp_G {l r : PySem.Expr} {op : CmpOp} {pos : Pos} {Q : Value → Shared → Prop} (h : wpG M A (eval l env) (fun a s₁ => wpAny M A (eval r env) (fun b s₂ => wpAny M A (compareOp op a b) Q E s₂) E s₁) E s)
    (hm : behindInMarks op r = false := by with_unfolding_all rfl) : wpG M A (eval (.Compare l [op] [r] pos) env) Q E s := by
  rw [eval_Compare1]
  refine wpG.bind (wpG.mono h (fun a s₁ q => wpG.of ?_) fun _ _ q => q)
  rw [markedBehindIn_of_false hm]
  refine wpAny_bind (wpAny_holding (wpAny_mono q (fun b s₂ q => wpAny_bind (wpAny_standAt ?_)) fun _ _ q => q))
  exact wpAny_operateT q
theorem callWith_G {K : Heap → Prop} {f : Value} {first : List Value} {pos : Pos} {args : List (Bool × Sem Value)} {kws : List (Option Str × Sem Value)} {Q : Value → Shared → Prop} (hplain : (args.any (·.1) || kws.any (·.1.isNone)) = false)
    (hk : ∀ h, K h → ∃ k, (k = Keeper.frame ∨ k = Keeper.machine ∨ k = Keeper.boundFrame) ∧ Looks M h (keeperOf f) k)
    (h : wpAny M A (evalArgs f true args kws) (fun a s₁ => K s₁.heap ∧ wpG M A (call f (first ++ a.pos) a.kw) Q E s₁) E s) : wpG M A (callWith pos f first args kws) Q E s := by
  unfold callWith
  refine wpG.pre (wpAny_holding (wpAny_mono h (fun a s₁ q => ?_) fun _ _ q => q))
  refine wpG.pre (wpAny_standAt ?_)
  obtain ⟨k, hk', L⟩ := hk _ q.1
  simp only [hplain]
  have last : ∀ {t : Sem Value}, wpG M A t Q E s₁ → wpG M A (t >>= fun r => holding [r] point >>= fun _ => pure r) Q E s₁ :=
    fun ht => wpG.bind (wpG.mono ht (fun r s₂ hr => wpG.of (wpAny_bind (wpAny_holding (wpAny_point (wpAny_pure hr))))) fun _ _ x => x)
  refine wpG.pre (L.here ?_)
  have marked (mk : Value) : wpG M A (callMarked mk f (first ++ a.pos) a.kw) Q E s₁ := by unfold callMarked; exact wpG.keep q.2
  rcases hk' with rfl | rfl | rfl <;> dsimp only <;> first | exact last q.2 | (split <;> first | exact last q.2 | exact last (marked _))
theorem method_G {o : PySem.Expr} {name : Str} {apos pos : Pos} {args : List PySem.Expr} {kws : List Keyword} {pl : Sem Bool} {Q : Value → Shared → Prop}
    (h : wpAny M A (eval o env) (fun ov s₁ => wpAny M A (getMethod ov name pl) (fun fx s₂ => wpG M A (callWith pos fx.1 fx.2 (backTo pos (starEach args env)) (backToKw pos (keywordEach kws env))) Q E s₂) E s₁) E s)
    (he : eval (.Call (.Attribute o name apos) args kws pos) env = (do
      let ov ← eval o env
      standAt apos.atName
      let (f, first) ← holding [ov] (getMethod ov name pl)
      callWith pos f first (backTo pos (starEach args env)) (backToKw pos (keywordEach kws env))) := by rfl) : wpG M A (eval (.Call (.Attribute o name apos) args kws pos) env) Q E s := by
  rw [he]
  exact wpG.pre (wpAny_mono h (fun ov s₁ q => wpG.pre (wpAny_standAt (wpG.pre (wpAny_holding q)))) fun _ _ q => q)
theorem callName_G {x : PySem.Expr} {pos : Pos} {args : List PySem.Expr} {kws : List Keyword} {Q : Value → Shared → Prop}
    (h : wpAny M A (eval x env) (fun f s₁ => wpG M A (callWith pos f [] (backTo pos (starEach args env)) (backToKw pos (keywordEach kws env))) Q E s₁) E s)
    (he : eval (.Call x args kws pos) env = (do callWith pos (← eval x env) [] (backTo pos (starEach args env)) (backToKw pos (keywordEach kws env))) := by rfl) : wpG M A (eval (.Call x args kws pos) env) Q E s := by
  rw [he]
  exact wpG.pre h
end
section
variable {prog : Program} {w : World} {A : Around} {s : Shared} {R : Result → Shared → Prop}
theorem expr_G {env : Env} {E : Value → Shared → Prop} {pos : Pos} {e : PySem.Expr} {Q : Flow → Shared → Prop} (h : wpG (model prog w) A (eval e env) (fun _ => Q .next) E s) (hi : interactive env = false := by rfl) (hs : swapsWith e none pos.line env = pure false := by rfl) : wpG (model prog w) A (exec (.Expr e pos) env) Q E s := by
  rw [exec_Expr _ _ _ hi hs]
  exact wpG.pre (wpAny_standAt (wpG.bind (wpG.mono h (fun v s' q => wpG.of (wpAny_dropValue q)) fun _ _ q => q)))
theorem func_G {body : List Stmt} {env : Env}
    (h : wpG (model prog w) (A.deeper env) (execs body env) (fun f s' => R (.ok (.ret (match f with | .ret v => v | _ => .none))) s')
      (fun e s' => wpAny (model prog w) (A.deeper env) (leaving env e) (fun _ s'' => R (.error e) s'') (fun e' s'' => R (.error e') s'') s') s) : codeG (model prog w) A (.func body env) R s := by
  refine codeG.tree rfl ?_
  show wpG _ (A.deeper env) (point >>= fun _ => (execs body env).onRaise (leaving env) >>= fun f => match f with | .ret v => ret v | _ => ret .none) _ _ s
  refine wpG.pre (wpAny_point (wpG.bind (wpG.onRaise (wpG.mono h (fun f s' q => ?_) fun _ _ q => q))))
  cases f <;> exact wpG.of (wpAny_pure q)
theorem callFn_G {a : Addr} {args : Args} {o : Obj} {fd : FuncData} {body : List Stmt} (room : A.depth < recursionLimit) (ho : s.heap.get? a = some o) (hd : o.data = .func fd) (co : fd.scope.isCoroutine = false) (gen : fd.scope.isGenerator = false)
    (hb : fd.body = .stmts body) (code : s.heap.CodeRec fd.code fd.qualname)
    (h : wpAny (model prog w) A.in1 (bindArgs fd args) (fun binds s₁ =>
      wpAny (model prog w) A.in1 (newFunctionEnv fd.scope fd.globals fd.closure binds (fd.qualname ++ ".<locals>.") (some a) fd.code none fd.builtins)
        (fun env s₂ => s₂.heap.NoLimit ∧ codeG (model prog w) A (.func body env) R s₂) (fun e s' => R (.error e) s') s₁) (fun e s' => R (.error e) s') s) : codeG (model prog w) A (.call (.ref a) args) R s := by
  refine codeG.tree rfl (wpG.of ?_)
  show wpAny _ A.in1 (callAny (.ref a) args) _ _ s
  unfold callAny
  refine wpAny_bind (wpAny_load ho ?_)
  obtain ⟨c, oc, fs, q, e1, e2, e3, e4⟩ := code
  rw [e1] at h
  simp only [hd, callFunction, co, gen, hb, e1]
  refine wpAny_bind (m := field (.ref c) 1) (wpAny_field e2 e3 e4 (wpAny_bind (wpAny_pure (wpAny_bind (wpAny_mono h (fun binds s₁ q => ?_) fun _ _ q => q)))))
  refine wpAny_bind (wpAny_mono q (fun env s₂ q => ?_) fun _ _ q => q)
  exact wpAny_bind (wpAny_enterFrame q.1 room (wpAny_pure ⟨rfl, q.2⟩))
end
theorem execs_cut {M : Model} {A : Around} {E : Value → Shared → Prop} {s : Shared} {env : Env} {body : List Stmt} {Q : Flow → Shared → Prop} (k : Nat)
    (h : wpAny M A (execs (body.take k) env) (fun f s' => match f with | .next => wpG M A (execs (body.drop k) env) Q E s' | f => Q f s') E s) : wpG M A (execs body env) Q E s := by
  have := execs_G h
  rwa [List.take_append_drop] at this
section
variable {prog : Program} {w : World} {A₀ A : Around} {s : Shared} {base h₀ : Heap} {outer : List Env} {L : Addr} {m : Str → Option Value} {env : Env} {news : List (Addr × Obj)} {K : Frag} {p : Program} {loose : List Str} {mean : ExcName → Option Value} {mg mb : Str → Option Value}
  {R : Result → Shared → Prop} {name qual : Str} {params : Arguments} {body : List Stmt} {scope : Scope} {dV kV doc pm cdv ct oc : Value} {an od : Option Addr} {osl : Array (Option Value)} {f : Addr} {args : Args} {binds : List (Str × Value)}
/-- entering a def without cells -/
theorem code_defG (B : Below A₀ base outer h₀) (F : Fr h₀ L s.heap m) (X₀ : K.In h₀) (N : News h₀ L s.heap news) (T : Top p loose mean mg mb h₀) (hA : A.frames = some (env :: outer)) (hf : env.frame = some L) (hke : env.scope.kind = .function)
    (ho : K.lookup f = some ⟨oc, od, .func (fnOf name qual params body scope dV kV doc pm an cdv ct), osl⟩) (hcd : codeIn K cdv qual = true) (room : A.depth < recursionLimit)
    (hbind : BindsTo s (fnOf name qual params body scope dV kV doc pm an cdv ct) args binds) (hloc : ∀ y ∈ binds, scope.names.lookup y.1 = some .local)
    (h : ∀ g L' h₁, Fr h₀ L g m → Fr g L' h₁ (fun y => binds.reverse.lookup y) → News g L' h₁ news → Below A base (env :: outer) g → K.In g → Top p loose mean mg mb g →
      wpG (model prog w) (A.deeper (envOf qual scope L' f cdv)) (execs body (envOf qual scope L' f cdv))
        (fun fl s' => LeaveK h₀ L m g R (match fl with | .ret v => v | _ => .none) s')
        (fun e s' => wpAny (model prog w) (A.deeper (envOf qual scope L' f cdv)) (leaving (envOf qual scope L' f cdv) e) (fun _ s'' => R (.error e) s'') (fun e' s'' => R (.error e') s'') s')
        { s with heap := h₁, toks := s.toks + binds.length })
    (hco : scope.isCoroutine = false) (hgen : scope.isGenerator = false) (hk : scope.kind = .function) (hcell : ∀ x ∈ scope.names, x.2 ≠ .cell) : codeG (model prog w) A (.call (.ref f) args) R s := by
  obtain ⟨FG, BG, st, lv⟩ := groundX (R := R) B F N hA hf hke
  have X₁ := X₀.keeps F.keep
  refine callFn_G (fd := fnOf name qual params body scope dV kV doc pm an cdv ct) room (X₁ _ _ ho) rfl hco hgen rfl (codeRec_of X₁ hcd) (hbind _ _ _ _ ?_)
  refine wpAny_newFunctionEnv hcell hloc (fun h₁ ns sb => ⟨(T.nolimit.keeps F.keep).fresh _ sb, func_G ?_⟩) hk
  have old : ∀ b o, s.heap.get? b = some o → h₁.get? b = some o := fun b o e => sb.extBut b o (Nat.ne_of_lt (Heap.lt_size e)) (Heap.get?_push_of_some _ e)
  refine wpG.mono (h _ s.heap.objs.size h₁ FG ⟨ns, fun b o e => old b o (of_hideAll _ e), Nat.le_of_eq (hideAll_size _ _)⟩ (fun q hq => ?_) BG (X₀.keeps st) (T.keeps st)) (fun fl s' hl => lv _ _ hl) fun _ _ y => y
  exact ⟨old _ _ (N q hq).1, Nat.ne_of_lt (Heap.lt_size (N q hq).1), hideAll_none _ (List.mem_map_of_mem hq)⟩
end
/-- the contract of a call, over the contexts without decoders -/
noncomputable def PureG (w : World) (mean : ExcName → Option Value) (mg mb : Str → Option Value) (led : List (Addr × Obj)) (D : Nat) (f : Addr) (vs : List Value) (R : Tok → Value) : Prop :=
  ∀ (dp un : Nat) (cn : Str) (cs : Scope) (a : Addr) (ccd : Value) (cl : List (Str × Addr)) (outer : List Env) (A₀ : Around) (base h₀ : Heap) (L : Addr) (m : Str → Option Value) (s : Shared) (Q E : Value → Shared → Prop),
    Below A₀ base outer h₀ → Fr h₀ L s.heap m → (hd.heap_39 w.params).In h₀ → News h₀ L s.heap led → Top hd.view_39 [] mean mg mb h₀ → cs.kind = .function →
    dp + D < recursionLimit → un + 20 * D < cLine →
    (∀ t h' tk', Fr h₀ L h' m → News h₀ L h' led → Q (R t) { s with heap := h', toks := tk' }) →
    wpG (model pr w) (ktrTop dp un (some []) cn cs L a ccd cl outer) (call (.ref f) vs) Q E s
theorem callArgs_G {M : Model} {A : Around} {E : Value → Shared → Prop} {s : Shared} {env : Env} {K : Heap → Prop} {f : Value} {first : List Value} {pos : Pos} {e : PySem.Expr} {rest : List PySem.Expr} {Q : Value → Shared → Prop}
    (hk : ∀ h, K h → ∃ k, (k = Keeper.frame ∨ k = Keeper.machine ∨ k = Keeper.boundFrame) ∧ Looks M h (keeperOf f) k)
    (h : wpAny M A (spliced (backTo pos (starEach (e :: rest) env))) (fun vs s₁ => K s₁.heap ∧ wpG M A (call f (first ++ vs)) Q E s₁) E s)
    (he : starEach (e :: rest) env = (false, eval e env) :: starEach rest env := by rfl) (hp : (backTo pos (starEach rest env)).any (·.1) = false := by rfl) :
    wpG M A (callWith pos f first (backTo pos (starEach (e :: rest) env)) (backToKw pos (keywordEach [] env))) Q E s := by
  show wpG M A (callWith pos f first (backTo pos (starEach (e :: rest) env)) []) Q E s
  rw [he] at h ⊢
  exact callWith_G (by show ((false || (backTo pos (starEach rest env)).any (·.1)) || false) = false; rw [hp]; rfl) hk (Calls.evalArgs_plain h)
theorem keeper_type {M : Model} {T : String} (h : Heap) (_ : True) : ∃ k, (k = Keeper.frame ∨ k = Keeper.machine ∨ k = Keeper.boundFrame) ∧ Looks M h (keeperOf (.type T)) k := ⟨.machine, .inr (.inl rfl), Looks.of_pure rfl⟩
theorem keeper_builtin {M : Model} {i : String} (h : Heap) (_ : True) : ∃ k, (k = Keeper.frame ∨ k = Keeper.machine ∨ k = Keeper.boundFrame) ∧ Looks M h (keeperOf (.builtin i)) k := ⟨.machine, .inr (.inl rfl), Looks.of_pure rfl⟩
theorem ba_mro : mroOf (.type "bytearray") = pure [.type "bytearray", .type "object"] := by rw [mroOf_type]; kernel_rfl
theorem ba_lookup_new : typeLookup (.type "bytearray") "__new__" = pure (some (.builtin "bytearray.__new__")) := by rw [typeLookup_type, builtinLookup_eq_fast]; kernel_rfl
theorem ba_slot_init : Slot "bytearray" "__init__" "bytearray.__init__" :=
  .of (owner := "bytearray") (n := "__init__") (by rw [typeLookup_type, builtinLookup_eq_fast]; kernel_rfl) (by decide +kernel) (by decide +kernel) (by decide +kernel)
    (by first | exact .inl (by decide +kernel) | exact .inr (by decide +kernel)) (by rw [isSubtype_type]; kernel_rfl)
theorem ba_sub : isSubtype (.type "bytearray") (.type "bytearray") = pure true := by rw [isSubtype_type]; kernel_rfl
theorem ba_called : TypeCalled "bytearray" "bytearray.__new__" "bytearray.__init__" :=
  ⟨by decide +kernel, by decide +kernel, ⟨_, _, ba_mro⟩, madeBy_type ba_mro ba_lookup_new (by decide +kernel), by decide +kernel, ba_sub, ba_slot_init⟩
theorem ba_typeCall (a : Value) : checkTypeCall "bytearray" ⟨[a], []⟩ = pure () := by kernel_rfl
theorem ba_newCall (a : Value) : checkBuiltinCall "bytearray.__new__" ⟨[.type "bytearray", a], []⟩ = pure () := by kernel_rfl
theorem ba_entry_new : entryFor table "bytearray.__new__" = some Builtin.«list.__new__» :=
  entryFor_alias (id' := "list.__new__") (by rw [fastTable_eq_tree]; kernel_rfl) (by kernel_rfl) (by kernel_rfl) (by rw [fastTable_eq_tree]; kernel_rfl)
theorem ba_entry_init : entryFor table "bytearray.__init__" = some Builtin.«bytearray.__init__» := by first | exact entryFor_of_tree (by kernel_rfl) | exact entryFor_of_fast (by kernel_rfl)
theorem ba_entry_append : entryFor table "bytearray.append" = some Builtin.«bytearray.append» := by first | exact entryFor_of_tree (by kernel_rfl) | exact entryFor_of_fast (by kernel_rfl)
theorem ba_entry_get : entryFor table "bytearray.__getitem__" = some Builtin.«bytearray.__getitem__» := by first | exact entryFor_of_tree (by kernel_rfl) | exact entryFor_of_fast (by kernel_rfl)
theorem ba_entry_set : entryFor table "bytearray.__setitem__" = some Builtin.«bytearray.__setitem__» := by first | exact entryFor_of_tree (by kernel_rfl) | exact entryFor_of_fast (by kernel_rfl)
theorem ba_plain_new : plainId "bytearray.__new__" = true := by decide +kernel
theorem ba_args_init (a b : Value) : argsOk "bytearray.__init__" ⟨[a, b], []⟩ := by unfold argsOk; kernel_rfl
theorem ba_args_append (a b : Value) : argsOk "bytearray.append" ⟨[a, b], []⟩ := by unfold argsOk; kernel_rfl
theorem ba_args_get (a b : Value) : argsOk "bytearray.__getitem__" ⟨[a, b], []⟩ := by unfold argsOk; kernel_rfl
theorem ba_args_set (a b c : Value) : argsOk "bytearray.__setitem__" ⟨[a, b, c], []⟩ := by unfold argsOk; kernel_rfl
theorem ba_slot_append : Slot "bytearray" "append" "bytearray.append" :=
  .of (owner := "bytearray") (n := "append") (by rw [typeLookup_type, builtinLookup_eq_fast]; kernel_rfl) (by decide +kernel) (by decide +kernel) (by decide +kernel)
    (by first | exact .inl (by decide +kernel) | exact .inr (by decide +kernel)) (by rw [isSubtype_type]; kernel_rfl)
theorem ba_slot_get : Slot "bytearray" "__getitem__" "bytearray.__getitem__" :=
  .of (owner := "bytearray") (n := "__getitem__") (by rw [typeLookup_type, builtinLookup_eq_fast]; kernel_rfl) (by decide +kernel) (by decide +kernel) (by decide +kernel)
    (by first | exact .inl (by decide +kernel) | exact .inr (by decide +kernel)) (by rw [isSubtype_type]; kernel_rfl)
theorem ba_slot_set : Slot "bytearray" "__setitem__" "bytearray.__setitem__" :=
  .of (owner := "bytearray") (n := "__setitem__") (by rw [typeLookup_type, builtinLookup_eq_fast]; kernel_rfl) (by decide +kernel) (by decide +kernel) (by decide +kernel)
    (by first | exact .inl (by decide +kernel) | exact .inr (by decide +kernel)) (by rw [isSubtype_type]; kernel_rfl)
theorem ba_bind (v : Value) : Builtin.Bytes.bindOptional "bytearray.__init__" "bytearray" ["source", "encoding", "errors"] [v] [] = pure [some v, none, none] := by kernel_rfl
theorem ba_release : typeLookup (.type "bytearray") "__release_buffer__" = pure (some (.builtin "bytearray.__release_buffer__")) := by rw [typeLookup_type, builtinLookup_eq_fast]; kernel_rfl
theorem ba_buffer : typeLookup (.type "bytearray") "__buffer__" = pure (some (.builtin "bytearray.__buffer__")) := by rw [typeLookup_type, builtinLookup_eq_fast]; kernel_rfl
theorem ba_no_bytes : typeLookup (.type "bytearray") "__bytes__" = pure none := by rw [typeLookup_type, builtinLookup_eq_fast]; kernel_rfl
theorem ba_no_index : typeLookup (.type "bytearray") "__index__" = pure none := by rw [typeLookup_type, builtinLookup_eq_fast]; kernel_rfl
theorem int_index : typeLookup (.type "int") "__index__" = pure (some (.builtin "int.__index__")) := by rw [typeLookup_type, builtinLookup_eq_fast]; kernel_rfl
noncomputable abbrev baObj (b : Array UInt8) : Obj := { cls := .type "bytearray", data := .bytearray b }
set_option maxRecDepth 1000000 in
theorem ba_owner : ("bytearray.__new__".splitOn ".__new__").headD "" = "bytearray" := by simp +decide [String.splitOn, String.splitOnAux]
section
variable {prog : Program} {w : World} {A : Around} {E : Value → Shared → Prop} {s : Shared}
theorem ba_new (a : Value) {Q₁ : Value → Shared → Prop} (h : Q₁ (.ref s.heap.objs.size) { s with heap := s.heap.push (baObj #[]) }) :
    codeAny (model prog w) A (.call (.builtin "bytearray.__new__") ⟨[.type "bytearray", a], []⟩) (wants Q₁ E) s := by
  refine codeAny_of_tree ?_
  show wpAny _ A.in1 (do checkBuiltinCall "bytearray.__new__" ⟨[.type "bytearray", a], []⟩; again (.builtin "bytearray.__new__" ⟨[.type "bytearray", a], []⟩)) _ _ s
  refine wpAny_bind (wpAny_of_eq (ba_newCall a) (wpAny_pure ⟨plainId_quiet ba_plain_new _, codeAny_builtin_stack ba_entry_new rfl fun p st => ?_⟩))
  rw [Around.under_plainId ba_plain_new _]
  have sub := ba_sub
  have own := ba_owner
  obtain ⟨hp, g, d, tk, os⟩ := s
  simp only [own]
  wp_walk
  exact h
theorem not_dite {c : Prop} [Decidable c] {a : c → Bool} {b : ¬c → Bool} (h : ¬c) (k : ¬ b h = true) : ¬ dite c a b = true := by
  rw [dif_neg h]
  exact k
/-- what asks whether a decoder holds the object: none does here -/
theorem exported_G {self : Value} {Q : Bool → Shared → Prop} (hg : A.guards = some []) (h : Q false s) : wpG (model prog w) A (Builtin.Bytes.exported self) Q E s := by
  unfold Builtin.Bytes.exported
  show wpG _ A (Sem.stack fun st => pure (List.any st _)) Q E s
  refine wpG.stack fun st hs hgs => wpG.of (wpAny_pure ?_)
  have e : ∀ x ∈ st, ∀ id as, x.1 = .builtin id as → Builtin.Bytes.decodersThatHold.contains id = false ∧ ¬ guardIds.contains id = true := by
    intro x hx id as e
    have h1 := hs x hx
    rw [e] at h1
    have h1 : (!Builtin.Bytes.decodersThatHold.contains id) = true := h1
    refine ⟨by simpa using h1, fun hgd => ?_⟩
    have h2 := hgs [] hg
    have : x.1 ∈ guardsOf st := List.mem_filter.mpr ⟨List.mem_map_of_mem hx, by rw [e]; exact hgd⟩
    rw [h2] at this
    exact nomatch this
  rw [show (st.any _) = false from List.any_eq_false.mpr fun x hx => ?_]
  · exact h
  · obtain ⟨c, p⟩ := x
    cases c with
    | builtin id args =>
      obtain ⟨pos, kw⟩ := args
      have e1 := e _ hx id ⟨pos, kw⟩ rfl
      have n : ∀ g, guardIds.contains g = true → ¬ id = g := fun g hg e => e1.2 (e ▸ hg)
      delta Builtin.Bytes.exported.match_1
      refine not_dite (c := id = "bytearray.__contains__") (n _ (by decide +kernel)) ?_
      refine not_dite (c := id = "bytearray.__mod__") (n _ (by decide +kernel)) ?_
      refine not_dite (c := id = "bytearray.__rmod__") (n _ (by decide +kernel)) ?_
      refine not_dite (c := id = "_struct.pack_into.held") (n _ (by decide +kernel)) ?_
      refine not_dite (c := id = "bytearray.find.held") (n _ (by decide +kernel)) ?_
      cases pos with
      | nil => exact Bool.false_ne_true
      | cons v t =>
        show ¬ (Builtin.Bytes.sameRef v self && Builtin.Bytes.decodersThatHold.contains id) = true
        rw [e1.1, Bool.and_false]
        exact Bool.false_ne_true
    | _ => exact Bool.false_ne_true
end
section
variable {prog : Program} {w : World} {A : Around} {E : Value → Shared → Prop} {s : Shared} {S : Addr} {b : Array UInt8}
theorem ba_type (hS : s.heap.get? S = some (baObj b)) : s.TypeIs (.ref S) "bytearray" := ⟨_, hS, rfl⟩
theorem ba_write {f : Array UInt8 → Array UInt8} {Q : Unit → Shared → Prop} (hS : s.heap.get? S = some (baObj b)) (hz : (f b).size ≤ 16777216) (h : Q () { s with heap := s.heap.update S (Obj.mapBytearray f) }) :
    wpAny (model prog w) A (Builtin.Bytes.write (.ref S) f) Q E s := by
  show wpAny _ _ (updateBytearray S f) _ _ _
  unfold updateBytearray
  refine wpAny_bind (wpAny_load hS ?_)
  show wpAny _ _ (update S (Obj.mapBytearray f) >>= fun _ => lookBehind S) _ _ _
  refine wpAny_bind (wpAny_update hS ?_)
  have hS₂ : (s.heap.update S (Obj.mapBytearray f)).get? S = some (baObj (f b)) := Heap.get?_update_self (Obj.mapBytearray f) hS rfl
  refine wpAny_lookBehind hS₂ ?_ h
  show (if (f b).size > sizeLine then some "bytearray:memory" else none) = none
  rw [if_neg]
  rw [PySem.sizeLine_eq]; omega
theorem ba_wrote {f : Array UInt8 → Array UInt8} (hS : s.heap.get? S = some (baObj b)) : (s.heap.update S (Obj.mapBytearray f)).get? S = some (baObj (f b)) := Heap.get?_update_self (Obj.mapBytearray f) hS rfl
theorem ba_own {Q : Bool → Shared → Prop} (hS : s.heap.get? S = some (baObj b)) (h : Q false s) : wpAny (model prog w) A (Builtin.Bytes.ownRelease (.ref S)) Q E s := by
  have hT := ba_type hS
  unfold Builtin.Bytes.ownRelease Builtin.Bytes.slotIsOwn
  refine wpAny_bind (wpAny_bind (wpAny_specialOf hT ba_release ?_))
  dsimp only
  have e1 : ("bytearray.__release_buffer__".endsWith ("." ++ "__release_buffer__")) = true := by decide +kernel
  have e2 : "bytearray.__release_buffer__".dropRight ("__release_buffer__".length + 1) = "bytearray" := by decide +kernel
  rw [e1, e2]
  refine wpAny_isInstance hT ba_sub (wpAny_pure h)
theorem ba_exports {Q : Nat → Shared → Prop} (hS : s.heap.get? S = some (baObj b)) (h : Q 0 s) : wpAny (model prog w) A (Builtin.Bytes.exportsOf (.ref S)) Q E s := by
  unfold Builtin.Bytes.exportsOf
  exact wpAny_bind (wpAny_load hS (wpAny_pure h))
theorem ba_payload {Q : Array UInt8 → Shared → Prop} (hS : s.heap.get? S = some (baObj b)) (h : Q b s) : wpAny (model prog w) A (Builtin.Bytes.payload (.ref S)) Q E s := by
  unfold Builtin.Bytes.payload Builtin.Bytes.payload?
  exact wpAny_bind (wpAny_bind (wpAny_load hS (wpAny_pure (wpAny_pure h))))
theorem ba_byte {n : Int} {t : Tok} {Q : UInt8 → Shared → Prop} (h0 : 0 ≤ n) (h1 : n < 256) (h : Q n.toNat.toUInt8 s) : wpAny (model prog w) A (Builtin.Bytes.byteValue (.int n t)) Q E s := by
  unfold Builtin.Bytes.byteValue
  refine wpAny_bind (wpAny_of_eq (rfl : asIndex (.int n t) = pure n) ?_)
  refine bm_if_false (by simp only [Bool.or_eq_false_iff, decide_eq_false_iff_not]; omega) ?_
  exact wpAny_pure h
end
section
variable {prog : Program} {w : World} {A : Around} {E : Value → Shared → Prop} {s : Shared} {S : Addr} {b : Array UInt8}
theorem wpG_if_false {α : Type} {c : Prop} [Decidable c] {x y : Sem α} {Q : α → Shared → Prop} (hc : ¬c) (h : wpG (model prog w) A y Q E s) : wpG (model prog w) A (if c then x else y) Q E s := by
  rw [if_neg hc]
  exact h
theorem wpAny_if_false {α : Type} {c : Prop} [Decidable c] {x y : Sem α} {Q : α → Shared → Prop} (hc : ¬c) (h : wpAny (model prog w) A y Q E s) : wpAny (model prog w) A (if c then x else y) Q E s := by
  rw [if_neg hc]
  exact h
theorem wpAny_if_true {α : Type} {c : Prop} [Decidable c] {x y : Sem α} {Q : α → Shared → Prop} (hc : c) (h : wpAny (model prog w) A x Q E s) : wpAny (model prog w) A (if c then x else y) Q E s := by
  rw [if_pos hc]
  exact h
theorem ba_init_G {n : Int} {t : Tok} {Q : Fin → Shared → Prop} (hg : A.guards = some []) (hS : s.heap.get? S = some (baObj b)) (h0 : 0 < n) (h1 : n ≤ 16777216)
    (h : Q (.done (.ret .none)) { s with heap := (s.heap.update S (Obj.mapBytearray fun _ => #[])).update S (Obj.mapBytearray fun _ => Array.replicate n.toNat 0) }) :
    wpG (model prog w) A (Builtin.«bytearray.__init__» ⟨[.ref S, .int n t], []⟩) Q E s := by
  unfold Builtin.«bytearray.__init__»
  dsimp only
  refine wpG.pre (ba_own hS ?_)
  refine wpG_if_false (by decide) ?_
  refine wpG.pre (wpAny_of_eq (ba_bind _) ?_)
  dsimp only
  refine wpG.pre (wpAny_of_eq (a := ()) rfl ?_)
  refine wpG.pre (wpAny_of_eq (a := ()) rfl ?_)
  refine wpG.bind (wpG.bind (exported_G hg ?_))
  show wpG _ _ (Builtin.Bytes.exportsOf (.ref S) >>= fun k => pure (decide (k > 0))) _ _ _
  refine wpG.pre (ba_exports hS (wpG.of (wpAny_pure ?_)))
  refine wpG_if_false (by decide) ?_
  refine wpG.of (wpAny_bind (ba_write hS (by simp) ?_))
  have hS2 := ba_wrote (f := fun _ => #[]) hS
  refine wpAny_bind (wpAny_of_eq (rfl : asStr? (.int n t) = pure none) ?_)
  refine wpAny_if_false (by exact Bool.false_ne_true) ?_
  refine wpAny_bind (wpAny_pure ?_)
  refine wpAny_bind (wpAny_specialOf (T := "int") (by exact rfl) int_index ?_)
  refine wpAny_if_true rfl ?_
  refine wpAny_bind (wpAny_attempt (wpAny_of_eq (rfl : asIndex (.int n t) = pure n) ?_))
  dsimp only
  refine bm_if_false (by simp [Builtin.Bytes.fitsIndex]; omega) ?_
  refine wpAny_if_false (by omega) ?_
  refine bm_if_false (by rw [beq_eq_false_iff_ne]; omega) ?_
  refine bm_if_false (by unfold Builtin.Bytes.tooLong; rw [PySem.sizeLine_eq]; simp; omega) ?_
  refine wpAny_bind (wpAny_rule ?_)
  refine wpAny_if_true h0 ?_
  exact wpAny_bind (ba_write hS2 (by simp; omega) (wpAny_pure h))
end
theorem okB {id : String} {args : Args} (h : (!Builtin.Bytes.decodersThatHold.contains id) = true) : okCode (.builtin id args) = true := h
section
variable {prog : Program} {w : World} {A : Around} {E : Value → Shared → Prop} {s : Shared} {S : Addr} {b : Array UInt8} {R : Result → Shared → Prop}
theorem codeG.builtin {id : String} {args : Args} {b : Builtin} (hb : entryFor table id = some b) (ok : okCode (.builtin id args) = true)
    (h : wpG (model prog w) (A.under (.builtin id args)) (b args) (fun fin s' => match fin with | .done f => R (.ok f) s' | .again c' => c'.quiet = true ∧ codeG (model prog w) A c' R s') (fun e s' => R (.error e) s') s) :
    codeG (model prog w) A (.builtin id args) R s := by
  refine codeG.tree ok ?_
  show wpG _ _ (match entryFor table id with | some b => b args | none => unsupported ((withoutEnding? id "#data").getD id)) _ _ s
  rw [hb]; exact h
theorem codeG.callBuiltin {id : String} {args : Args} {b : Builtin} (hq : plainId id = true) (hb : entryFor table id = some b) (ok : okCode (.builtin id args) = true)
    (h : wpAny (model prog w) A.in1 (checkBuiltinCall id args) (fun _ s₁ => wpG (model prog w) A.in1 (b args)
      (fun fin s' => match fin with | .done f => R (.ok f) s' | .again c' => c'.quiet = true ∧ codeG (model prog w) A c' R s') (fun e s' => R (.error e) s') s₁) (fun e s' => R (.error e) s') s) :
    codeG (model prog w) A (.call (.builtin id) args) R s := by
  refine codeG.tree rfl (wpG.of ?_)
  show wpAny _ A.in1 (do checkBuiltinCall id args; again (.builtin id args)) _ _ s
  refine wpAny_bind (wpAny_mono h (fun _ s₁ h₁ => wpAny_pure ⟨plainId_quiet hq args, codeG.builtin hb ok ?_⟩) fun _ _ q => q)
  rw [Around.under_plainId hq args]; exact h₁
theorem ba_call_G {n : Int} {t : Tok} {Q : Value → Shared → Prop} (hg : A.guards = some []) (h0 : 0 < n) (h1 : n ≤ 16777216)
    (h : ∀ h', (∀ b o, s.heap.get? b = some o → h'.get? b = some o) → h'.get? s.heap.objs.size = some (baObj (Array.replicate n.toNat 0)) → Q (.ref s.heap.objs.size) { s with heap := h' }) :
    wpG (model prog w) A (call (.type "bytearray") [.int n t]) Q E s := by
  refine wpG.call (codeG.tree rfl (wpG.of ?_))
  show wpAny _ _ (callAny (.type "bytearray") _) _ _ _
  refine wpAny_pure ⟨Code.quiet_builtin _ (by decide +kernel), codeG.builtin F.entry_type_call (okB (by decide +kernel)) ?_⟩
  rw [Around.under_plain (weight_type_call_type "bytearray" [.int n t] []) (units_type_call_type "bytearray" [.int n t] [])]
  have n1 := ba_called.notType
  have n2 := ba_called.canCreate
  unfold Builtin.«type.__call__»
  simp only [n1, n2, Bool.false_eq_true, if_false]
  refine wpG.pre (wpAny_of_eq (ba_typeCall _) ?_)
  refine wpG.pre (wpAny_of_eq ba_mro ?_)
  rw [if_neg (by decide)]
  refine wpG.pre (wpAny_of_eq ba_called.made ?_)
  dsimp only
  refine wpG.pre (wpAny_pure ?_)
  refine wpG.pre (wpAny_holding (wpAny_call (codeAny_mono (ba_new (E := fun _ _ => False) (Q₁ := fun v s' => v = .ref s.heap.objs.size ∧ s' = { s with heap := s.heap.push (baObj #[]) }) _ ⟨rfl, rfl⟩) fun r s₁ hr => ?_)))
  rcases r with e | (v | _ | _ | _) <;> first | exact hr.elim | skip
  obtain ⟨rfl, rfl⟩ := hr
  dsimp only
  have hS : (s.heap.push (baObj #[])).get? s.heap.objs.size = some (baObj #[]) := Heap.get?_push_size _ rfl
  have hT : Shared.TypeIs { s with heap := s.heap.push (baObj #[]) } (.ref s.heap.objs.size) "bytearray" := ⟨_, hS, rfl⟩
  refine wpG.pre (wpAny_isInstance hT ba_sub ?_)
  rw [if_neg (by decide)]
  refine wpG.bind (wpG.holding ?_)
  unfold callSpecial?
  refine wpG.pre (wpAny_specialOf hT ba_slot_init.lookup ?_)
  dsimp only
  refine wpG.holding ?_
  refine wpG.pre (wpAny_of_eq (ba_slot_init.bind (.ref s.heap.objs.size)) ?_)
  dsimp only
  refine wpG.bind (wpG.call (codeG.callBuiltin ba_slot_init.plain ba_entry_init (okB (by decide +kernel)) (ba_slot_init.check _ _ _ _ _ _ _ _ hT (ba_args_init _ _) ?_)))
  refine ba_init_G hg hS h0 h1 ?_
  dsimp only
  refine wpG.of (wpAny_pure ?_)
  dsimp only
  rw [if_neg (by decide)]
  refine wpG.of (wpAny_pure ?_)
  have hS2 := ba_wrote (s := { s with heap := s.heap.push (baObj #[]) }) (f := fun _ => #[]) hS
  have hS3 := ba_wrote (s := { s with heap := (s.heap.push (baObj #[])).update s.heap.objs.size (Obj.mapBytearray fun _ => #[]) }) (f := fun _ => Array.replicate n.toNat 0) hS2
  refine h _ (fun b o e => ?_) hS3
  have hne : b ≠ s.heap.objs.size := Nat.ne_of_lt (Heap.lt_size e)
  exact (Heap.get?_update_other _ _ (Ne.symm hne)).trans ((Heap.get?_update_other _ _ (Ne.symm hne)).trans (Heap.get?_push_of_some _ e))
end
section
variable {prog : Program} {w : World} {A : Around} {E : Value → Shared → Prop} {s : Shared} {S : Addr} {b : Array UInt8}
theorem ba_append_G {v : Int} {t : Tok} {Q : Value → Shared → Prop} (hg : A.guards = some []) (hS : s.heap.get? S = some (baObj b)) (h0 : 0 ≤ v) (h1 : v < 256) (hz : b.size < 16777216)
    (h : Q .none { s with heap := s.heap.update S (Obj.mapBytearray (·.push v.toNat.toUInt8)) }) : wpG (model prog w) A (call (.builtin "bytearray.append") [.ref S, .int v t]) Q E s := by
  refine wpG.call (codeG.callBuiltin ba_slot_append.plain ba_entry_append (okB (by decide +kernel)) (ba_slot_append.check _ _ _ _ _ _ _ _ (ba_type hS) (ba_args_append _ _) ?_))
  unfold Builtin.«bytearray.append»
  refine wpG.pre (wpAny_of_eq (a := (Value.ref S, Value.int v t)) rfl ?_)
  dsimp only
  refine wpG.pre (ba_byte h0 h1 ?_)
  refine wpG.bind ?_
  unfold Builtin.Bytes.checkResize
  refine wpG.bind (wpG.bind (exported_G hg ?_))
  show wpG _ _ (Builtin.Bytes.exportsOf (.ref S) >>= fun k => pure (decide (k > 0))) _ _ _
  refine wpG.pre (ba_exports hS (wpG.of (wpAny_pure ?_)))
  rw [if_neg (by decide)]
  refine wpG.of (wpAny_pure ?_)
  exact wpG.of (wpAny_bind (ba_write hS (by simp; omega) (wpAny_pure h)))
theorem ba_sub_int {k : Int} {u : Tok} {Q : Option Int → Shared → Prop} (h0 : 0 ≤ k) (h1 : k < 2 ^ 63) (h : Q (some k) s) : wpAny (model prog w) A (Builtin.Bytes.subscript? (.int k u)) Q E s := by
  unfold Builtin.Bytes.subscript?
  refine wpAny_bind (wpAny_specialOf (T := "int") (by exact rfl) int_index ?_)
  rw [if_neg (by decide)]
  refine wpAny_bind (wpAny_of_eq (rfl : asIndex (.int k u) = pure k) ?_)
  refine bm_if_false (by simp [Builtin.Bytes.fitsIndex]; omega) ?_
  exact wpAny_pure h
theorem ba_getB {k : Int} {u : Tok} {v : UInt8} {Q : Value → Shared → Prop} (hS : s.heap.get? S = some (baObj b)) (h0 : 0 ≤ k) (h1 : k < 2 ^ 63) (hv : b[k.toNat]? = some v)
    (h : Q (.int v.toNat s.toks) { s with toks := s.toks + 1 }) : wpAny (model prog w) A (call (.builtin "bytearray.__getitem__") [.ref S, .int k u]) Q E s := by
  refine wpAny_call_entry ba_slot_get (ba_type hS) ba_entry_get ?_ (ba_args_get _ _)
  unfold Builtin.«bytearray.__getitem__»
  refine wpAny_bind (wpAny_of_eq (a := (Value.ref S, [Value.int k u])) rfl ?_)
  dsimp only
  refine wpAny_bind (ba_sub_int h0 h1 ?_)
  dsimp only
  refine wpAny_bind (ba_payload hS ?_)
  have hlt : k.toNat < b.size := (Array.getElem?_eq_some_iff.mp hv).1
  have e : (PySem.seqIndex? k b.size).bind (b[·]?) = some v := by
    rw [seqIndex_of h0 (by omega)]
    exact hv
  rw [e]
  dsimp only
  refine wpAny_bind (wpAny_mkInt (wpAny_pure ⟨_, rfl, ?_⟩))
  exact h
end
noncomputable abbrev baOf (ks : List Int) : Obj := baObj (bytesOf ks)
theorem bytesOf_size (ks : List Int) : (bytesOf ks).size = ks.length := by simp [bytesOf]
theorem bytesOf_set (ks : List Int) (k : Nat) (v : Int) : (bytesOf ks).setIfInBounds k v.toNat.toUInt8 = bytesOf (ks.set k v) := by
  unfold bytesOf
  apply Array.toList_inj.mp
  simp
theorem bytesOf_push (ks : List Int) (v : Int) : (bytesOf ks).push v.toNat.toUInt8 = bytesOf (ks ++ [v]) := by
  unfold bytesOf
  simp
theorem bytesOf_zeros (n : Nat) : Array.replicate n (0 : UInt8) = bytesOf (litK [] n) := by
  rw [litK_nil]
  unfold bytesOf
  apply Array.toList_inj.mp
  induction n with
  | zero => rfl
  | succ n ih =>
    rw [Array.toList_replicate] at ih ⊢
    rw [List.replicate_succ, ih, List.replicate_succ, List.flatten_cons, List.map_append]
    rfl
theorem bytesOf_get {ks : List Int} {k : Nat} (h : k < ks.length) (hr : ∀ x ∈ ks, 0 ≤ x ∧ x < 256) : ∃ v : UInt8, (bytesOf ks)[k]? = some v ∧ ((v.toNat : Nat) : Int) = ks.getD k 0 := by
  have hx := hr ks[k] (List.getElem_mem h)
  refine ⟨ks[k].toNat.toUInt8, ?_, ?_⟩
  · unfold bytesOf
    simp [h]
  · have e : ks[k].toNat < 256 := by omega
    have e2 : (ks[k].toNat.toUInt8).toNat = ks[k].toNat := by simp [Nat.toUInt8, UInt8.toNat_ofNat', Nat.mod_eq_of_lt e]
    rw [List.getD_eq_getElem?_getD, List.getElem?_eq_getElem h, e2]
    simp only [Option.getD_some]
    omega
section
variable {prog : Program} {w : World} {A : Around} {E : Value → Shared → Prop} {s : Shared} {h₀ : Heap} {L S : Addr} {m : Str → Option Value} {led led' : List (Addr × Obj)} {ks : List Int}
theorem ba_get {k : Int} {u : Tok} {Q : Value → Shared → Prop} (N : News h₀ L s.heap led) (hm : (S, baOf ks) ∈ led) (hr : ∀ x ∈ ks, 0 ≤ x ∧ x < 256) (h0 : 0 ≤ k) (h1 : k < (ks.length : Int)) (h2 : k < 2 ^ 63)
    (h : ∀ t k', Q (.int (ks.getD k.toNat 0) t) { s with toks := k' }) : wpAny (model prog w) A (getItem (.ref S) (.int k u)) Q E s := by
  have hS := (N _ hm).1
  obtain ⟨v, e1, e2⟩ := bytesOf_get (ks := ks) (k := k.toNat) (by omega) hr
  unfold getItem
  refine wpAny_holding ?_
  refine wpAny_bind (wpAny_sequenceKey (ba_type hS) (by decide) ?_)
  refine wpAny_bind (wpAny_callSpecial?_slot (name := Str.ofString "__getitem__") (ba_type hS) ba_slot_get (ba_getB hS h0 h2 e1 ?_))
  rw [e2]
  exact wpAny_pure (h _ _)
theorem ba_item {value slice : PySem.Expr} {k : Int} {u : Tok} {Q : Value → Shared → Prop} (N : News h₀ L s.heap led) (hm : (S, baOf ks) ∈ led) (hr : ∀ x ∈ ks, 0 ≤ x ∧ x < 256) (h0 : 0 ≤ k) (h1 : k < (ks.length : Int)) (h2 : k < 2 ^ 63)
    (h : ∀ t k', Q (.int (ks.getD k.toNat 0) t) { s with toks := k' })
    (hs : subscripted slice false (.ref S) (.int k u) = operate [.ref S, .int k u] (getItem (.ref S) (.int k u)) := by with_unfolding_all rfl) : wpAny (model prog w) A (subscriptTail value slice (.ref S) (.int k u)) Q E s :=
  tail_any (ba_type (N _ hm).1) ba_slot_get.lookup (ba_get N hm hr h0 h1 h2 h) hs
theorem ba_set {k v : Int} {t u : Tok} {Q : Unit → Shared → Prop} (F : Fr h₀ L s.heap m) (N : News h₀ L s.heap led) (U : Upd S (baOf ks) (baOf (ks.set k.toNat v)) led led') (h0 : 0 ≤ k) (h1 : k < (ks.length : Int)) (h2 : k < 2 ^ 63) (v0 : 0 ≤ v) (v1 : v < 256) (hz : ks.length ≤ 16777216)
    (h : ∀ h', Fr h₀ L h' m → News h₀ L h' led' → Q () { s with heap := h' }) : wpAny (model prog w) A (setItem (.ref S) (.int k t) (.int v u)) Q E s := by
  obtain ⟨pre, post, rfl, rfl, a1, a2⟩ := U.split
  have hS := (N (S, baOf ks) (List.mem_append.mpr (.inr (.head _)))).1
  obtain ⟨F', N'⟩ := news_upd (f := Obj.mapBytearray (·.setIfInBounds k.toNat v.toNat.toUInt8)) F N a1 a2 (o' := baOf (ks.set k.toNat v)) (by
    show baObj ((bytesOf ks).setIfInBounds k.toNat v.toNat.toUInt8) = _
    rw [bytesOf_set]) rfl
  unfold setItem
  refine wpAny_holding ?_
  refine wpAny_bind (wpAny_sequenceKey (ba_type hS) (by decide) ?_)
  refine wpAny_bind (wpAny_callSpecial?_slot (name := Str.ofString "__setitem__") (ba_type hS) ba_slot_set (wpAny_call_entry ba_slot_set (ba_type hS) ba_entry_set ?_ (ba_args_set _ _ _)))
  unfold Builtin.«bytearray.__setitem__»
  dsimp only
  rw [if_neg (by decide)]
  refine wpAny_bind (ba_sub_int h0 h2 ?_)
  dsimp only
  refine wpAny_bind (ba_byte v0 v1 ?_)
  refine wpAny_bind (ba_payload hS ?_)
  have e : PySem.seqIndex? k (bytesOf ks).size = some k.toNat := seqIndex_of h0 (by rw [bytesOf_size]; exact h1)
  rw [e]
  dsimp only
  refine wpAny_bind (ba_write hS (by rw [Array.size_setIfInBounds, bytesOf_size]; exact hz) ?_)
  refine wpAny_pure ⟨_, rfl, ?_⟩
  exact wpAny_pure (h _ F' N')
end
theorem ba_attrs : PlainAttrs "bytearray" :=
  ⟨⟨"bytearray.__getattribute__", by rw [typeLookup_type, builtinLookup_eq_fast]; kernel_rfl, by decide +kernel⟩, by rw [typeLookup_type, builtinLookup_eq_fast]; kernel_rfl⟩
theorem ba_append_type : typeOf (.builtin "bytearray.append") = pure (.type "method_descriptor") := by show builtinType _ = _; rw [builtinType_eq_fast]; kernel_rfl
section
variable {prog : Program} {w : World} {A : Around} {E : Value → Shared → Prop} {s : Shared} {h₀ : Heap} {L S : Addr} {m : Str → Option Value} {led : List (Addr × Obj)} {ks : List Int} {b : Array UInt8}
theorem ba_bytes_new {Q : Value → Shared → Prop} (hS : s.heap.get? S = some (baObj b)) (hz : b.size ≤ 16777216) (hQ : ∀ t k, Q (.bytes b t) { s with toks := k }) :
    codeAny (model prog w) A (.call (.builtin "bytes.__new__") ⟨[.type "bytes", .ref S], []⟩) (wants Q E) s := by
  have hT := ba_type hS
  refine codeAny_call_builtin F.bm_plain F.bm_entry (wpAny_of_eq (F.bm_newCall _) ?_)
  unfold Builtin.«bytes.__new__»
  dsimp only
  refine wpAny_bind (wpAny_of_eq (a := true) rfl ?_)
  rw [if_neg (by decide)]
  refine wpAny_bind (wpAny_of_eq F.bm_sub ?_)
  rw [if_neg (by decide)]
  refine wpAny_bind (wpAny_of_eq (F.bm_bind _) ?_)
  dsimp only
  refine wpAny_bind (wpAny_of_eq (a := ()) rfl ?_)
  refine wpAny_bind (wpAny_of_eq (a := ()) rfl ?_)
  simp only [Option.isSome_none, Bool.false_eq_true, if_false]
  refine wpAny_bind (wpAny_specialOf hT ba_no_bytes ?_)
  dsimp only
  refine wpAny_bind (wpAny_bind (m := asStr? (.ref S)) ?_)
  refine wpAny_bind (m := load S) (wpAny_load hS (wpAny_pure (wpAny_pure ?_)))
  rw [if_neg (by decide)]
  refine wpAny_bind (wpAny_specialOf hT ba_no_index ?_)
  refine bm_if_true (by decide) ?_
  refine wpAny_bind (m := Builtin.Bytes.buffer? "bytes.__new__" (.ref S) true) ?_
  unfold Builtin.Bytes.buffer?
  refine wpAny_bind (wpAny_specialOf hT ba_buffer ?_)
  dsimp only
  refine wpAny_bind ?_
  unfold Builtin.Bytes.slotIsOwn
  refine wpAny_bind (wpAny_specialOf hT ba_buffer ?_)
  dsimp only
  rw [show ("bytearray.__buffer__".endsWith ("." ++ "__buffer__")) = true from by decide +kernel, show "bytearray.__buffer__".dropRight ("__buffer__".length + 1) = "bytearray" from by decide +kernel]
  refine wpAny_isInstance hT ba_sub ?_
  rw [if_neg (by decide)]
  refine wpAny_bind (wpAny_specialOf hT ba_buffer ?_)
  (try dsimp only)
  refine wpAny_bind (ba_own hS ?_)
  rw [if_neg (by decide)]
  refine wpAny_bind (ba_payload hS (wpAny_pure ?_))
  (try dsimp only)
  refine wpAny_bind (wpAny_rule ?_)
  refine wpAny_bind (m := mkBytes b) (wpAny_mkBytes ?_ (by rw [PySem.sizeLine_eq]; exact hz))
  refine bm_if_true (by decide) ?_
  exact wpAny_pure (hQ _ _)
theorem ba_bytes {Q : Value → Shared → Prop} (N : News h₀ L s.heap led) (hm : (S, baOf ks) ∈ led) (hz : ks.length ≤ 16777216) (h : ∀ t k, Q (.bytes (bytesOf ks) t) { s with toks := k }) : wpAny (model prog w) A (call (.type "bytes") [.ref S]) Q E s := by
  refine callType_codes (Q₁ := fun obj s₁ => s₁.TypeIs obj "bytes" ∧ Q obj s₁) F.bm_called (F.bm_typeCall _) F.entry_object_init
    (ba_bytes_new (N _ hm).1 (by rw [bytesOf_size]; exact hz) fun t k => ⟨PySem.W.typeIs_bytes _ _ _, h t k⟩) fun obj s₁ h₁ => ?_
  exact ⟨h₁.1, F.args_object_init_2 obj _, object_init_meets F.bm_called.init.lookup F.bm_called.made (by decide) prog w A.in1 _ s₁ ⟨h₁.1, rfl, h₁.2⟩⟩
theorem ba_method {pl : Sem Bool} {Q : Value × List Value → Shared → Prop} (N : News h₀ L s.heap led) (hm : (S, baOf ks) ∈ led) (h : Q (.builtin "bytearray.append", [.ref S]) s) : wpAny (model prog w) A (getMethod (.ref S) "append" pl) Q E s :=
  getMethod_builtin (ba_type (N _ hm).1) ba_attrs ba_slot_append ba_append_type (fun a e => by cases e; exact ⟨_, (N _ hm).1, rfl⟩) h
theorem ba_make_G {n : Int} {t : Tok} {Q : Value → Shared → Prop} (hg : A.guards = some []) (F : Fr h₀ L s.heap m) (N : News h₀ L s.heap led) (h0 : 0 < n) (h1 : n ≤ 16777216)
    (h : ∀ (D : Addr) h', Fr h₀ L h' m → News h₀ L h' ((D, baOf (litK [] n.toNat)) :: led) → (∀ p ∈ led, p.1 < D) → Q (.ref D) { s with heap := h' }) : wpG (model prog w) A (call (.type "bytearray") [.int n t]) Q E s := by
  refine ba_call_G hg h0 h1 fun h' keep at_ => ?_
  rw [bytesOf_zeros] at at_
  exact h _ _ (F.kept keep) (N.kept_cons F keep (Nat.le_refl _) at_) fun p hp => Heap.lt_size (N p hp).1
theorem ba_push_G {v : Int} {t : Tok} {led' : List (Addr × Obj)} {Q : Value → Shared → Prop} (hg : A.guards = some []) (F : Fr h₀ L s.heap m) (N : News h₀ L s.heap led) (U : Upd S (baOf ks) (baOf (ks ++ [v])) led led') (h0 : 0 ≤ v) (h1 : v < 256) (hz : ks.length < 16777216)
    (h : ∀ h', Fr h₀ L h' m → News h₀ L h' led' → Q .none { s with heap := h' }) : wpG (model prog w) A (call (.builtin "bytearray.append") [.ref S, .int v t]) Q E s := by
  obtain ⟨pre, post, rfl, rfl, a1, a2⟩ := U.split
  have hS := (N (S, baOf ks) (List.mem_append.mpr (.inr (.head _)))).1
  obtain ⟨F', N'⟩ := news_upd (f := Obj.mapBytearray (·.push v.toNat.toUInt8)) F N a1 a2 (o' := baOf (ks ++ [v])) (by
    show baObj ((bytesOf ks).push v.toNat.toUInt8) = _
    rw [bytesOf_push]) rfl
  exact ba_append_G hg hS h0 h1 (by rw [bytesOf_size]; exact hz) (h _ F' N')
end
theorem words_10 : True := by
  (k_with "subscriptTail" => (k_here; (with_reducible show wpAny _ _ (subscriptTail _ _ (Value.ref _) (Value.int _ _)) _ _ _); k_dflt (refine ba_item (by k_asm) (by k_mem) (by assumption) (by omega) (by omega) (by omega) ?_ (by with_unfolding_all rfl); k_whole); intro _ _))
  (k_with "setItem ref int" => (k_here; (with_reducible show wpAny _ _ (setItem (Value.ref _) (Value.int _ _) (Value.int _ _)) _ _ _); k_dflt (refine ba_set (by k_asm) (by k_asm) (by k_upd) (by omega) (by omega) (by omega) (by omega) (by omega) (by omega) ?_; k_whole); intro h' F' N'))
  (k_with "call type:bytes" => (k_here; (with_reducible show wpAny _ _ (call (Value.type "bytes") [Value.ref _]) _ _ _); k_dflt (refine ba_bytes (by k_asm) (by k_mem) (by omega) ?_; k_whole); intro _ _))
  (k_with "getMethod ref" => (k_here; (with_reducible show wpAny _ _ (getMethod (Value.ref _) (PySem.Str.ofString "append") _) _ _ _); k_dflt (refine ba_method (by k_asm) (by k_mem) ?_)))
  trivial
/-- how many octets of lamps -/
noncomputable def lengthK (n : Nat) (bits : Int) : Int := ((if (n : Int) * bits < 64 then 64 else (n : Int) * bits) + 7) / 8
noncomputable def spotsAll (keys : List (List Int)) (p : Nat) (wd : Int) : List Int := (keys.map fun ks => spotsK ks p wd).flatten
theorem make_frame {h₀ h : Heap} {L x kl : Addr} {m : Str → Option Value} {v1 v2 oc : Int} {ta tb : Tok} (F : Fr h₀ L h m) (e1 : m (Str.ofString "length") = some (.int v1 ta)) (e2 : m (Str.ofString "wide") = some (.int v2 tb))
    (e5 : m (Str.ofString "self") = some (.ref x)) (e6 : m (Str.ofString "keys") = some (.ref kl)) (e3 : v1 = oc) (e4 : v2 = 8 * oc) :
    ∃ m2, Fr h₀ L h m2 ∧ m2 (Str.ofString "length") = some (.int oc ta) ∧ m2 (Str.ofString "wide") = some (.int (8 * oc) tb) ∧ m2 (Str.ofString "self") = some (.ref x) ∧ m2 (Str.ofString "keys") = some (.ref kl) := ⟨m, F, e3 ▸ e1, e4 ▸ e2, e5, e6⟩
/-- between the turns of make's loop -/
noncomputable def MakeJ (keys : List (List Int)) (p : Nat) (oc : Int) (x D : Addr) (led : List (Addr × Obj)) (i : Nat) (m : Str → Option Value) (news : List (Addr × Obj)) : Prop :=
  news = (D, baOf (litK (spotsAll (keys.take i) p (8 * oc)) oc.toNat)) :: led ∧ m (Str.ofString "out") = some (.ref D) ∧ IsI m (Str.ofString "wide") (8 * oc) ∧ m (Str.ofString "self") = some (.ref x)
/-- between the turns of its inner loop -/
noncomputable def MakeJ2 (P ks : List Int) (oc : Int) (x D : Addr) (led : List (Addr × Obj)) (I : Addr) (it : Obj) (p : Nat) (q : Nat) (m : Str → Option Value) (news : List (Addr × Obj)) : Prop :=
  news = (I, it) :: (D, baOf (litK (P ++ (spotsK ks p (8 * oc)).take q) oc.toNat)) :: led ∧ IsI m (Str.ofString "h") (stepK (hashK ks) q) ∧ IsI m (Str.ofString "delta") (turnK (hashK ks)) ∧
    IsI m (Str.ofString "wide") (8 * oc) ∧ m (Str.ofString "out") = some (.ref D) ∧ m (Str.ofString "self") = some (.ref x)
theorem spotsAll_succ {keys : List (List Int)} {i p : Nat} {wd : Int} (h : i < keys.length) : spotsAll (keys.take (i + 1)) p wd = spotsAll (keys.take i) p wd ++ spotsK keys[i] p wd := by
  unfold spotsAll
  rw [List.take_add_one, List.getElem?_eq_getElem h, List.map_append, List.flatten_append]
  simp
theorem make_ne {led : List (Addr × Obj)} {D I I2 : Nat} {o1 o2 : Obj} (h : @LT.lt Nat instLTNat I I2) (h' : @LT.lt Nat instLTNat D I2) (l : ∀ p ∈ led, p.1 < D) : ∀ p ∈ (I, o1) :: (D, o2) :: led, p.1 ≠ I2 := by
  intro p hp
  simp only [List.mem_cons] at hp
  rcases hp with rfl | rfl | hp
  · exact Nat.ne_of_lt h
  · exact Nat.ne_of_lt h'
  · exact Nat.ne_of_lt (Nat.lt_trans (l p hp) h')
theorem make_spec {w : World} {mean : ExcName → Option Value} {mg mb : Str → Option Value} {led : List (Addr × Obj)} (x d kl : Addr) (bits : Int) (k1 t1 k2 t2 : Tok) (k : Nat) (kv : List Value) (keys : List (List Int)) (hx : (x, instObj 120 d) ∈ led) (hd' : (d, bloomDict w bits (probesK bits) k1 t1 k2 t2) ∈ led)
    (hkl : (kl, listOf kv.toArray k) ∈ led) (hlen : kv.length = keys.length) (hkeys : ∀ (i : Nat) v ks, kv[i]? = some v → keys[i]? = some ks → ∃ b t, v = .bytes b t ∧ KBw.bInts b = ks ∧ ks.length ≤ 1000) (hb0 : 1 ≤ bits) (hb : bits ≤ 10000) (hn : keys.length ≤ 1000) :
    PureG w mean mg mb led 3 110 [.ref x, .ref kl] (fun t => .bytes (bytesOf (filterK (spotsAll keys (probesK bits).toNat (8 * lengthK keys.length bits)) (lengthK keys.length bits).toNat (probesK bits))) t) := by
  intro dp un cn cs a ccd cl outer A₀ base h₀ L m s Q E B F X N T hk hdp hun R
  refine wpG.call ?_
  k_dflt (refine' code_defG (binds := [(Str.ofString "self", .ref x), (Str.ofString "keys", .ref kl)]) ?k1 ?k2 ?k3 ?k4 ?k5 ?kA ?kF ?kK ?k6 ?k7 ?k8 ?k9 ?kB ?_ ?c2 ?c3 ?c4 ?c5; (case kA => exact rfl); (case kF => exact rfl); (case kK => assumption); (case k1 => k_asm); (case k2 => k_asm); (case k3 => k_asm); (case k4 => k_asm); (case k5 => k_asm); (case k6 => k_is); (case k7 => k_is); (case k8 => ktr_room); (case k9 => exact BindsTo.of_eq rfl); (case c5 => decide); (case kB => exact locs rfl); (case c2 => exact rfl); (case c3 => exact rfl); (case c4 => exact rfl); k_whole; intro g' L' h' FG' F' N' B' X' T'; (try dsimp only); (try k_lift B'))
  refine execs_cut 4 ?_
  dsimp only [List.take, List.drop]
  k_fold
  k_extra "m steps"
  all_goals
    rename Fr _ _ _ _ => F1
    rename News _ _ _ _ => N1
    obtain ⟨m2, F2, ml, mw, ms, mk⟩ := make_frame (oc := lengthK keys.length bits) F1 rfl rfl rfl rfl (by unfold lengthK; rw [fdiv8]; first | rw [if_pos (by assumption)] | rw [if_neg (by assumption)]) (by unfold lengthK; rw [fdiv8]; first | rw [if_pos (by assumption), Int.mul_comm] | rw [if_neg (by assumption), Int.mul_comm])
    replace F2 := knows F2 (kcons ml (kcons mw (kcons ms (kcons mk knil))))
    clear F1
    have hoc0 : 0 < lengthK keys.length bits := by unfold lengthK; split <;> lia
    have hoc1 : lengthK keys.length bits ≤ 2000000 := by
      have h1 : (keys.length : Int) * bits ≤ 1000 * 10000 := Int.mul_le_mul (by lia) hb (by lia) (by decide)
      unfold lengthK; split <;> lia
    generalize lengthK keys.length bits = oc at *
    refine exec1_G (assign_G (callName_G ?_))
    k_extra "m steps"
    refine callArgs_G keeper_type ?_
    k_extra "m steps"
    try exact True.intro
    rename Fr _ _ _ _ => F3
    refine ba_make_G rfl F3 N1 hoc0 (by lia) ?_
    clear F3
    intro D h2 F4 N4 lD
    try dsimp only
    k_extra "m steps"
    rename Fr _ _ _ _ => F5
    rename News _ _ _ _ => N5
    refine execs_cut 1 ?_
    dsimp only [List.take, List.drop]
    k_extra "m steps"
    rename Fr _ _ _ _ => F6
    rename News _ _ _ _ => N6
    obtain ⟨J, hJ⟩ : ∃ J, J = MakeJ keys (probesK bits).toNat oc x D led := ⟨_, rfl⟩
    refine iter_listUnr rfl F6 N6 (.tail _ hkl) rfl rfl ?_
    intro I lI
    replace lI : @LT.lt Nat instLTNat D I := lI _ (List.Mem.head _)
    have lD' : ∀ p ∈ led, p.1 < D := lD
    refine list_ind (vs := kv) J ?_ ?_ _ 0 _ _ rfl ?_ (Nat.zero_le _)
    · rintro i v m1 news1 it h1 tk1 hv hJ1 hc F7 N7
      rw [hJ] at hJ1
      obtain ⟨rfl, mo, ⟨tw, mw1⟩, ms1⟩ := hJ1
      have hi : i < keys.length := by
        have := (List.getElem?_eq_some_iff.mp hv).1
        lia
      obtain ⟨b, bt, rfl, hbi, hbl⟩ := hkeys i v keys[i] hv (List.getElem?_eq_getElem hi)
      replace F7 := knowsS F7 (kcons mo (kcons mw1 (kcons ms1 knil)))
      clear F6 N6
      have hhr := hashK_range keys[i]
      generalize hks : keys[i] = ks at *
      k_extra "m steps"
      rename Fr _ _ _ _ => F8
      rename News _ _ _ _ => N8
      rename IsRange _ _ _ _ _ _ _ _ => R8
      have hpr := probesK_range bits
      obtain ⟨p, hp⟩ : ∃ p : Nat, probesK bits = (p : Int) := ⟨(probesK bits).toNat, (Int.toNat_of_nonneg (by lia)).symm⟩
      rw [hp] at R8
      obtain ⟨J2, hJ2⟩ : ∃ J2, J2 = MakeJ2 (spotsAll (keys.take i) (probesK bits).toNat (8 * oc)) ks oc x D led I it (probesK bits).toNat := ⟨_, rfl⟩
      refine krs_iter (n := p) rfl R8 (small_of (by lia) (by lia) (by lia) (by lia) (by lia) (by lia)) (range1 _) F8 N8 ?_
      intro I2 lI2
      have lI3 : @LT.lt Nat instLTNat I I2 := lI2 _ (List.Mem.head _)
      have lI4 : @LT.lt Nat instLTNat D I2 := lI2 _ (.tail _ (List.Mem.head _))
      refine krs_ind J2 ?_ ?_ _ _ _ _ (Nat.zero_add _) ?_
      · rintro q m3 news3 t3 h3 tk3 hq hJ3 F9 N9
        rw [hJ2] at hJ3
        obtain ⟨rfl, ⟨th, mh⟩, ⟨td, md⟩, ⟨tw2, mw2⟩, mo2, ms2⟩ := hJ3
        replace F9 := knowsS F9 (kcons mh (kcons md (kcons mw2 (kcons mo2 (kcons ms2 knil)))))
        clear F8 N8 R8
        have hsr := stepK_range (hashK ks) q
        have hpl0 : 0 ≤ stepK (hashK ks) q % (8 * oc) := Int.emod_nonneg _ (by lia)
        have hpl1 : stepK (hashK ks) q % (8 * oc) < 8 * oc := Int.emod_lt_of_pos _ (by lia)
        have efm : (stepK (hashK ks) q).fmod (8 * oc) = stepK (hashK ks) q % (8 * oc) := Int.fmod_eq_emod_of_nonneg _ (by lia)
        iterate 6 k_extra "m steps 1"
        rw [efm]
        generalize hpl : stepK (hashK ks) q % (8 * oc) = y at hpl0 hpl1 ⊢
        have hsp : spotK (hashK ks) (8 * oc) q = y := hpl
        generalize hP' : spotsAll (keys.take i) (probesK bits).toNat (8 * oc) ++ (spotsK ks (probesK bits).toNat (8 * oc)).take q = P' at *
        have hlit := litK_in P' oc.toNat
        have hll := litK_length P' oc.toNat
        have hor : Builtin.bitOr ((litK P' oc.toNat).getD (y.fdiv 8).toNat 0) (1 * 2 ^ (y.fmod 8).toNat) = octI (P' ++ [y]) (y / 8).toNat := by
          rw [fdiv8, fmod8, litK_getD P' (by lia)]
          exact octI_or hpl0
        have hq0 : 0 ≤ y.fdiv 8 := by rw [fdiv8]; lia
        have hq1 : y.fdiv 8 < oc := by rw [fdiv8]; lia
        have hoct := octI_range (P' ++ [y]) (y / 8).toNat
        rw [← hor] at hoct
        k_extra "m steps"
        rename News _ _ _ _ => N10
        rename Fr _ _ _ _ => F10
        have hset := litK_or (P := P') (n := oc.toNat) hpl0 (by lia)
        rw [← fdiv8, ← fmod8] at hset
        rw [hset] at N10
        refine UnrEnd.intro F10 N10 _ (fun p hp => hp) (make_ne lI3 lI4 lD') ?_
        rw [hJ2]
        refine ⟨?_, isI rfl (stepK_succ _ _), isI rfl rfl, isI rfl rfl, rfl, rfl⟩
        have hget : (spotsK ks (probesK bits).toNat (8 * oc))[q]? = some y := by
          unfold spotsK
          rw [List.getElem?_map, List.getElem?_range (by lia)]
          show some (spotK (hashK ks) (8 * oc) q) = some y
          rw [hsp]
        rw [List.take_add_one, hget, ← List.append_assoc, hP']
        rfl
      · intro m3 news3 h3 tk3 hJ3 F9 N9
        rw [hJ2] at hJ3
        obtain ⟨rfl, -, -, ⟨tw2, mw2⟩, mo2, ms2⟩ := hJ3
        replace F9 := knows F9 (kcons mw2 (kcons mo2 (kcons ms2 knil)))
        clear F8 N8 R8
        rw [show (spotsK ks (probesK bits).toNat (8 * oc)).take p = spotsK ks (probesK bits).toNat (8 * oc) from List.take_of_length_le (by rw [spotsK_len]; lia), ← hks, ← spotsAll_succ hi] at N9
        k_extra "m steps"
        rename News _ _ _ _ => N10
        rename Fr _ _ _ _ => F10
        refine UnrEnd.intro F10 N10 _ (fun p hp => hp) (cons_ne lI lD') ⟨.tail _ hkl, ?_⟩
        rw [hJ]
        exact ⟨rfl, rfl, isI rfl rfl, rfl⟩
      · rw [hJ2]
        refine ⟨?_, isI rfl (stepK_zero hhr.1 hhr.2).symm, isI rfl (turn_of hhr.1 hhr.2), isI rfl rfl, rfl, rfl⟩
        rw [List.take_zero, List.append_nil]
    · intro m1 news1 h1 tk1 hJ1 F7 N7
      rw [hJ] at hJ1
      obtain ⟨rfl, mo, ⟨tw, mw1⟩, ms1⟩ := hJ1
      replace F7 := knows F7 (kcons mo (kcons mw1 (kcons ms1 knil)))
      clear F6 N6
      rw [List.take_of_length_le (by lia)] at N7
      k_extra "m steps"
      refine exec1_G (expr_G (method_G ?_))
      k_extra "m steps"
      try dsimp only
      have hpr := probesK_range bits
      have hll := litK_length (spotsAll keys (probesK bits).toNat (8 * oc)) oc.toNat
      refine callArgs_G keeper_builtin ?_
      k_extra "m steps"
      try exact True.intro
      rename Fr _ _ _ _ => F8
      rename News _ _ _ _ => N8
      refine ba_push_G rfl F8 N8 (Upd.head fun p hp => Nat.ne_of_lt (lD' p hp)) (by lia) (by lia) (by lia) ?_
      clear F8 N8
      intro h9 F9 N9
      try dsimp only
      refine wpG.of ?_
      have hlf : (litK (spotsAll keys (probesK bits).toNat (8 * oc)) oc.toNat ++ [probesK bits]).length = oc.toNat + 1 := by rw [List.length_append, hll]; rfl
      k_extra "m steps"
      rename News _ _ _ _ => kN
      rename Fr _ _ _ _ => kF
      exact R _ _ _ kF (news_sub kN fun p hp => .tail _ hp)
    · rw [hJ]
      exact ⟨rfl, rfl, isI rfl rfl, rfl⟩
/-- entering a def with cells from a claim's call, over the contexts without decoders -/
theorem enter_cellsG {prog : Program} {w : World} {A : Around} {R : Result → Shared → Prop} {s : Shared} {name : Str} {params : Arguments} {body : List Stmt} {scope : Scope} {pm cd doc : Value} {a : Addr} {o : Obj} {args : List Value} {binds : List (Str × Value)}
    (room : A.depth < recursionLimit) (ho : s.heap.get? a = some o) (hd : o.data = .func (Calls.docDef name params body scope pm cd doc)) (lim : s.heap.NoLimit) (code : s.heap.CodeRec cd name)
    (bind : bindArgs (Calls.docDef name params body scope pm cd doc) ⟨args, []⟩ = pure binds)
    (kinds : ∀ x ∈ binds, scope.names.lookup x.1 = some .local ∨ (scope.names.lookup x.1 = some .cell ∧ ((cellsFrom (s.heap.objs.size + 1) scope.names []).lookup x.1).isSome = true))
    (once : ((cellsFrom 0 scope.names []).map (·.1)).Nodup)
    (h : ∀ h₁ tk cells, Fr s.heap s.heap.objs.size h₁ (bindL (envOfC name scope s.heap.objs.size a cd).kindOf binds fun _ => none) → News s.heap s.heap.objs.size h₁ cells →
      CellsAre (bindC (envOfC name scope s.heap.objs.size a cd).kindOf binds fun _ => none) (cellsFrom (s.heap.objs.size + 1) scope.names []) cells →
      wpG (model prog w) (A.deeper (envOfC name scope s.heap.objs.size a cd)) (execs body (envOfC name scope s.heap.objs.size a cd))
        (fun f s' => R (.ok (.ret (match f with | .ret v => v | _ => .none))) s')
        (fun e s' => wpAny (model prog w) (A.deeper (envOfC name scope s.heap.objs.size a cd)) (leaving (envOfC name scope s.heap.objs.size a cd) e) (fun _ s'' => R (.error e) s'') (fun e' s'' => R (.error e') s'') s')
        { s with heap := h₁, toks := tk })
    (co : scope.isCoroutine = false := by rfl) (gen : scope.isGenerator = false := by rfl) (fn : scope.kind = .function := by rfl) : codeG (model prog w) A (.call (.ref a) ⟨args, []⟩) R s := by
  refine callFn_G room ho hd co gen rfl code (wpAny_of_eq bind ?_)
  refine wpAny_newFunctionEnv_cells fn kinds fun env he s' x => ?_
  subst he
  refine ⟨lim.keeps x.toInCall.keep, func_G ?_⟩
  obtain ⟨h₁, tk, rfl, _⟩ := x.done
  obtain ⟨cells, NC, Y⟩ := Cl.news (h₀ := s.heap) (Nat.le_refl _) fun n c hm => ⟨x.cell n c (lookup_of_mem_nodup (cellsFrom_names scope.names 0 (s.heap.objs.size + 1) [] [] rfl ▸ once) hm), x.above n c hm⟩
  exact h h₁ tk cells ⟨x.toInCall.ns, x.toInCall.keep, Nat.le_refl _⟩ NC Y
theorem cells_step {cm : Str → Option Value} {n : Str} {c : Addr} {cs : List (Str × Addr)} {cells : List (Addr × Obj)} (x : CellsAre cm ((n, c) :: cs) cells) : ∃ o r, cells = (c, o) :: r ∧ o.data = .cell (cm n) ∧ CellsAre cm cs r := by
  cases x with
  | cons h r => exact ⟨_, _, rfl, h, r⟩
noncomputable abbrev lawEnv (L fa : Addr) (cd : Value) : Env := envOfC lawRec.name lawRec.scope L fa cd
noncomputable abbrev lawTop (dp un : Nat) (L fa : Addr) (cd : Value) (outer : List Env) : Around := ktrTop dp un (some []) lawRec.name lawRec.scope L fa cd (cellsFrom (L + 1) lawRec.scope.names []) outer
/-- the law's statements from the number k on -/
noncomputable def LawAt (w : World) (dp un : Nat) (L fa : Addr) (cd : Value) (outer : List Env) (Q : Flow → Shared → Prop) (E : Value → Shared → Prop) (s : Shared) (k : Nat) : Prop :=
  wpG (model pr w) (lawTop dp un L fa cd outer) (execs (lawRec.body.drop k) (lawEnv L fa cd)) Q E s
theorem lawAt_cut {w : World} {dp un : Nat} {L fa : Addr} {cd : Value} {outer : List Env} {Q : Flow → Shared → Prop} {E : Value → Shared → Prop} {s : Shared} {k : Nat} (j : Nat)
    (h : wpAny (model pr w) (lawTop dp un L fa cd outer) (execs ((lawRec.body.drop k).take j) (lawEnv L fa cd)) (fun f s' => match f with | .next => LawAt w dp un L fa cd outer Q E s' (k + j) | f => Q f s') E s) : LawAt w dp un L fa cd outer Q E s k := by
  refine execs_cut j (wpAny_mono h (fun f s' q => ?_) fun _ _ q => q)
  cases f with
  | next =>
    unfold LawAt at q
    rw [List.drop_drop]
    exact q
  | _ => exact q
theorem lawAt_one {w : World} {dp un : Nat} {L fa : Addr} {cd : Value} {outer : List Env} {Q : Flow → Shared → Prop} {E : Value → Shared → Prop} {s : Shared} {k : Nat} {st : Stmt} (hs : lawRec.body[k]? = some st)
    (h : wpG (model pr w) (lawTop dp un L fa cd outer) (exec st (lawEnv L fa cd)) (fun f s' => match f with | .next => LawAt w dp un L fa cd outer Q E s' (k + 1) | f => Q f s') E s) : LawAt w dp un L fa cd outer Q E s k := by
  unfold LawAt
  obtain ⟨hk, e⟩ := List.getElem?_eq_some_iff.mp hs
  rw [List.drop_eq_getElem_cons hk, e]
  exact exec1_G h
/-- the law's ledger -/
noncomputable abbrev LawC (L : Addr) (c1 c2 c3 c4 c5 c6 c7 c8 c9 c10 c11 c12 : Obj) (led : List (Addr × Obj)) : List (Addr × Obj) :=
  (L + 1 + 1 + 1 + 1 + 1 + 1 + 1 + 1 + 1 + 1 + 1 + 1, c12) :: (L + 1 + 1 + 1 + 1 + 1 + 1 + 1 + 1 + 1 + 1 + 1, c11) :: (L + 1 + 1 + 1 + 1 + 1 + 1 + 1 + 1 + 1 + 1, c10) :: (L + 1 + 1 + 1 + 1 + 1 + 1 + 1 + 1 + 1, c9) ::
  (L + 1 + 1 + 1 + 1 + 1 + 1 + 1 + 1, c8) :: (L + 1 + 1 + 1 + 1 + 1 + 1 + 1, c7) :: (L + 1 + 1 + 1 + 1 + 1 + 1, c6) :: (L + 1 + 1 + 1 + 1 + 1, c5) :: (L + 1 + 1 + 1 + 1, c4) :: (L + 1 + 1 + 1, c3) :: (L + 1 + 1, c2) :: (L + 1, c1) :: led
/-- off the law's cells -/
noncomputable def LawOff (L : Addr) (led : List (Addr × Obj)) : Prop := ∀ p ∈ led, @LT.lt Nat instLTNat p.1 (L + 1) ∨ @LT.lt Nat instLTNat (L + 12) p.1
/-- the law's cells: nums, b, bits, n, keys, probes, octets, rows, views, j, half, way -/
noncomputable def LawN (h₀ : Heap) (L : Addr) (h : Heap) (led : List (Addr × Obj)) (v1 v2 v3 v4 v5 v6 v7 v8 v9 v10 v11 v12 : Option Value) : Prop :=
  ∃ c1 c2 c3 c4 c5 c6 c7 c8 c9 c10 c11 c12 : Obj, News h₀ L h (LawC L c1 c2 c3 c4 c5 c6 c7 c8 c9 c10 c11 c12 led) ∧ c1.data = .cell v1 ∧ c2.data = .cell v2 ∧ c3.data = .cell v3 ∧ c4.data = .cell v4 ∧ c5.data = .cell v5 ∧ c6.data = .cell v6 ∧
    c7.data = .cell v7 ∧ c8.data = .cell v8 ∧ c9.data = .cell v9 ∧ c10.data = .cell v10 ∧ c11.data = .cell v11 ∧ c12.data = .cell v12 ∧ LawOff L led
/-- what stands around the law's frame -/
structure LawCx (w : World) (mean : ExcName → Option Value) (mg mb : Str → Option Value) (dp un : Nat) (outer : List Env) (A₀ : Around) (base h₀ : Heap) : Prop where
  B : Below A₀ base outer h₀
  K : (hd.heap_39 w.params).In h₀
  T : Top hd.view_39 [] mean mg mb h₀
  dp : dp + 10 < recursionLimit
  un : un + 400 < cLine
theorem led_off {led : List (Addr × Obj)} {L d : Nat} (h : LawOff L led) (h1 : @LE.le Nat instLENat (L + 1) d) (h2 : @LE.le Nat instLENat d (L + 12)) : ∀ p ∈ led, p.1 ≠ d := by
  intro p hp e
  replace e : @Eq Nat p.1 d := e
  have := h p hp
  omega
theorem off_cons {led : List (Addr × Obj)} {L D : Nat} {o : Obj} (h : @LT.lt Nat instLTNat D (L + 1) ∨ @LT.lt Nat instLTNat (L + 12) D) (x : LawOff L led) : LawOff L ((D, o) :: led) := by
  intro p hp
  rcases List.mem_cons.mp hp with rfl | hp
  · exact h
  · exact x p hp
theorem off_nil {L : Nat} : LawOff L [] := fun _ h => nomatch h
section
variable {h₀ h : Heap} {L : Addr} {c1 c2 c3 c4 c5 c6 c7 c8 c9 c10 c11 c12 : Obj} {led : List (Addr × Obj)}
theorem lawC_lt {D : Nat} (l : ∀ p ∈ LawC L c1 c2 c3 c4 c5 c6 c7 c8 c9 c10 c11 c12 led, p.1 < D) : @LT.lt Nat instLTNat (L + 12) D := l _ (List.Mem.head _)
theorem lawC_push {q : Addr × Obj} (N : News h₀ L h (q :: LawC L c1 c2 c3 c4 c5 c6 c7 c8 c9 c10 c11 c12 led)) : News h₀ L h (LawC L c1 c2 c3 c4 c5 c6 c7 c8 c9 c10 c11 c12 (q :: led)) := by
  intro p hp
  unfold LawC at hp
  iterate 12
    rcases List.mem_cons.mp hp with rfl | hp'
    · exact N _ (.tail _ (by k_mem))
    clear hp; rename _ ∈ _ => hp
  rcases List.mem_cons.mp hp with rfl | hp
  · exact N _ (.head _)
  · refine N _ (.tail _ ?_)
    iterate 12 refine .tail _ ?_
    exact hp
end
theorem nk {q : Addr × Obj} {l1 l2 : List (Addr × Obj)} (h : ∀ p ∈ l1, p ∈ l2) : ∀ p ∈ q :: l1, p ∈ q :: l2 := by
  intro p hp
  rcases List.mem_cons.mp hp with rfl | hp
  · exact .head _
  · exact .tail _ (h p hp)
theorem nd {q : Addr × Obj} {l1 l2 : List (Addr × Obj)} (h : ∀ p ∈ l1, p ∈ l2) : ∀ p ∈ l1, p ∈ q :: l2 := fun p hp => .tail _ (h p hp)
theorem nr {l : List (Addr × Obj)} : ∀ p ∈ l, p ∈ l := fun _ hp => hp
theorem lawC_pushs {h₀ h : Heap} {L : Addr} {c1 c2 c3 c4 c5 c6 c7 c8 c9 c10 c11 c12 : Obj} {led : List (Addr × Obj)} : ∀ (qs : List (Addr × Obj)), News h₀ L h (qs ++ LawC L c1 c2 c3 c4 c5 c6 c7 c8 c9 c10 c11 c12 led) → News h₀ L h (LawC L c1 c2 c3 c4 c5 c6 c7 c8 c9 c10 c11 c12 (qs ++ led))
  | [], N => N
  | q :: qs, N => by
    have N1 := lawC_pushs qs (news_sub N fun p hp => .tail _ hp)
    refine lawC_push (q := q) (led := qs ++ led) fun p hp => ?_
    rcases List.mem_cons.mp hp with rfl | hp
    · exact N _ (.head _)
    · exact N1 _ hp
theorem words_11 : True := by
  (k_with "own k_all" => first | assumption | (refine led_off (by assumption) (by omega) (by omega)))
  (k_with "m one" => first | (k_unfold; (try dsimp only)) | (k_end; wrow_close) | (walk1; first | (with_reducible show wpAny _ _ (subscriptTail _ (PySem.Expr.Slice _ _ _ _) _ _) _ _ _) | (try dsimp only [List.nil_append, List.cons_append])) | (dsimp only; walk1) | (leave1; walk_say "STEP leave1"; try dsimp only))
  (k_with "eval ListComp" => (k_here; (with_reducible show wpAny _ _ _ _ _ _); lct_look; k_dflt (refine LCt.ListComp_T (F₀ := by k_asm) (by with_unfolding_all rfl) (by decide) (by rfl) (by decide) (by rfl) ?_)))
  (k_with "exec Assign cons ListComp" => (k_here; (with_reducible show wpAny _ _ _ _ _ _); lct_look; k_dflt (refine LCt.Assign_ListComp_T (F₀ := by k_asm) (by rfl) (by with_unfolding_all rfl) (by with_unfolding_all rfl) (by decide) (by rfl) (by decide) (by rfl) (by rfl) (by rfl) ?_)))
  (k_with "n no comp" => fail_if_success (with_reducible show LCt.CompSrcT _ _ _ _ _ _ _ _ _ _ _ _ _ _ _))
  (k_with "n steps 1" => (k_extra "m no while"; k_extra "m no loop"; k_extra "m no comp"; k_extra "n no comp"; k_extra "m one"))
  (k_with "n steps" => repeat' (k_extra "n steps 1"))
  trivial
theorem menu_all {l : List Int} {lo hi : Int} (h : l.all (fun x => decide (lo ≤ x) && decide (x ≤ hi)) = true) {j : Nat} (hj : j < l.length) : lo ≤ l.getD j 0 ∧ l.getD j 0 ≤ hi := by
  rw [List.getD_eq_getElem?_getD, List.getElem?_eq_getElem hj, Option.getD_some]
  have := List.all_eq_true.mp h _ (List.getElem_mem hj)
  simp only [Bool.and_eq_true, decide_eq_true_eq] at this
  exact this
theorem menu_at {l : List Int} {lo hi : Int} (h : l.all (fun x => decide (lo ≤ x) && decide (x ≤ hi)) = true) (a : Int) {k : Int} (hk : 0 < k) (hl : (l.length : Int) = k) : lo ≤ l.getD (a.fmod k).toNat 0 ∧ l.getD (a.fmod k).toNat 0 ≤ hi := by
  have h0 : 0 ≤ a.fmod k := Int.fmod_nonneg_of_pos _ hk
  have h1 : a.fmod k < k := Int.fmod_lt_of_pos _ hk
  exact menu_all h (by omega)
theorem segB {w : World} {mean : ExcName → Option Value} {mg mb : Str → Option Value} {dp un : Nat} {L fa : Addr} {cd : Value} {outer : List Env} {A₀ : Around} {base h₀ : Heap} {Q : Flow → Shared → Prop} {s : Shared} {m : Str → Option Value} {led : List (Addr × Obj)} (C : LawCx w mean mg mb dp un outer A₀ base h₀) (F : Fr h₀ L s.heap m) {l : Addr} {k : Nat} {vs : List Value} {ns : List Int} (N : LawN h₀ L s.heap led (some (.ref l)) none none none none none none none none none none none)
    (hl : (l, listOf vs.toArray k) ∈ led) (hI : IntsAre vs ns) (hn : 0 < ns.length) (hlen : ns.length ≤ 40) (hr : ∀ x ∈ ns, 0 ≤ x ∧ x < 999983)
    (cont : ∀ (m' : Str → Option Value) (h' : Heap) (tk' : Nat) (b bits n st : Int) (tb t1 t2 t3 : Tok), Fr h₀ L h' m' → m' (Str.ofString "strangers") = some (.int st t3) →
      LawN h₀ L h' led (some (.ref l)) (some (.int b tb)) (some (.int bits t1)) (some (.int n t2)) none none none none none none none none → 0 ≤ b → b < 1100000 → 1 ≤ bits → bits ≤ 1100 → 3 ≤ n → n ≤ 262 → 0 ≤ st → st ≤ 8 →
      LawAt w dp un L fa cd outer Q (fun _ _ => False) { s with heap := h', toks := tk' } 8) : LawAt w dp un L fa cd outer Q (fun _ _ => False) s 2 := by
  obtain ⟨B, K, T, hdp, hun⟩ := C
  obtain ⟨c1, c2, c3, c4, c5, c6, c7, c8, c9, c10, c11, c12, N, d1, d2, d3, d4, d5, d6, d7, d8, d9, d10, d11, d12, hgt⟩ := N
  have ra := drawI_range (i := 0) hn (by decide) hr
  have rb := drawI_range (i := 1) hn (by decide) hr
  refine lawAt_cut 6 ?_
  dsimp only [lawRec, lawEnv, lawTop, envOfC, recOf, List.take, List.drop]
  k_extra "m steps"
  all_goals
    rename News _ _ _ _ => kN
    rename Fr _ _ _ _ => kF
  · have h1 := menu_at (l := [6, 8, 10, 12, 2, 2]) (lo := 1) (hi := 1100) (by decide) (drawI ns 0) (k := 6) (by decide) rfl
    have h2 := menu_at (l := [78, 70, 62, 60, 100, 257]) (lo := 60) (hi := 257) (by decide) (drawI ns 0) (k := 6) (by decide) rfl
    have h3 : 0 ≤ ((drawI ns 0).fdiv 6).fmod 6 := Int.fmod_nonneg_of_pos _ (by decide)
    have h4 : ((drawI ns 0).fdiv 6).fmod 6 < 6 := Int.fmod_lt_of_pos _ (by decide)
    exact cont _ _ _ _ _ _ _ _ _ _ _ kF rfl ⟨_, _, _, _, _, _, _, _, _, _, _, _, news_sub kN fun p hp => .tail _ (.tail _ (.tail _ (hp))), by assumption, by assumption, by assumption, by assumption, by assumption, by assumption, by assumption, by assumption, by assumption, by assumption, by assumption, by assumption, hgt⟩ (by omega) (by omega) h1.1 h1.2 (by omega) (by omega) (by decide) (by decide)
  · have h1 := menu_at (l := [171, 43, 1100, 60, 10, 300, 2]) (lo := 1) (hi := 1100) (by decide) (drawI ns 0) (k := 7) (by decide) rfl
    have h3 : 0 ≤ ((drawI ns 0).fdiv 7).fmod 3 := Int.fmod_nonneg_of_pos _ (by decide)
    have h4 : ((drawI ns 0).fdiv 7).fmod 3 < 3 := Int.fmod_lt_of_pos _ (by decide)
    exact cont _ _ _ _ _ _ _ _ _ _ _ kF rfl ⟨_, _, _, _, _, _, _, _, _, _, _, _, news_sub kN fun p hp => .tail _ (hp), by assumption, by assumption, by assumption, by assumption, by assumption, by assumption, by assumption, by assumption, by assumption, by assumption, by assumption, by assumption, hgt⟩ (by omega) (by omega) h1.1 h1.2 (by omega) (by omega) (by decide) (by decide)
/-- a list of keys: octets of at most eight -/
inductive KeysAre : List Value → List (List Int) → Prop
  | nil : KeysAre [] []
  | cons (b : Array UInt8) (t : Tok) (ks : List Int) {vs : List Value} {kss : List (List Int)} (h : KBw.bInts b = ks) (hl : ks.length ≤ 8) : KeysAre vs kss → KeysAre (.bytes b t :: vs) (ks :: kss)
theorem KeysAre.length : ∀ {vs : List Value} {kss : List (List Int)}, KeysAre vs kss → vs.length = kss.length
  | _, _, .nil => rfl
  | _, _, .cons _ _ _ _ _ x => by rw [List.length_cons, List.length_cons, x.length]
theorem KeysAre.append : ∀ {vs ws : List Value} {kss jss : List (List Int)}, KeysAre vs kss → KeysAre ws jss → KeysAre (vs ++ ws) (kss ++ jss)
  | _, _, _, _, .nil, y => y
  | _, _, _, _, .cons b t ks h hl x, y => .cons b t ks h hl (x.append y)
theorem KeysAre.at : ∀ {vs : List Value} {kss : List (List Int)}, KeysAre vs kss → ∀ (i : Nat) (v : Value), vs[i]? = some v → ∃ (b : Array UInt8) (t : Tok) (ks : List Int), v = .bytes b t ∧ kss[i]? = some ks ∧ KBw.bInts b = ks ∧ ks.length ≤ 8
  | _, _, .cons b t ks h hl x, 0, v, e => by
    cases e
    exact ⟨b, t, ks, rfl, rfl, h, hl⟩
  | _, _, .cons b t ks h hl x, i + 1, v, e => x.at i v e
theorem KeysAre.lens {vs : List Value} {kss : List (List Int)} (x : KeysAre vs kss) {i : Nat} {ks : List Int} (h : kss[i]? = some ks) : ks.length ≤ 8 := by
  have h1 := (List.getElem?_eq_some_iff.mp h).1
  rw [← x.length] at h1
  obtain ⟨b, t, ks', _, e, _, hl⟩ := x.at i _ (List.getElem?_eq_getElem h1)
  rw [h] at e
  exact Option.some.inj e ▸ hl
section
variable {prog : Program} {w : World} {A : Around} {E : Value → Shared → Prop} {s : Shared} {h₀ : Heap} {L l D : Addr} {m : Str → Option Value} {led : List (Addr × Obj)} {vs : List Value} {k : Nat} {kss : List (List Int)} {Q : Value → Shared → Prop}
theorem item_keys {value slice : PySem.Expr} {i : Int} {u : Tok} (N : News h₀ L s.heap led) (hm : (l, listOf vs.toArray k) ∈ led) (hI : KeysAre vs kss) (h0 : 0 ≤ i) (h1 : i < (kss.length : Int)) (hz : kss.length ≤ 16777216)
    (h : ∀ b t, KBw.bInts b = kss.getD i.toNat [] → (kss.getD i.toNat []).length ≤ 8 → kss[i.toNat]? = some (kss.getD i.toNat []) → Q (.bytes b t) s)
    (hs : subscripted slice false (.ref l) (.int i u) = operate [.ref l, .int i u] (getItem (.ref l) (.int i u)) := by with_unfolding_all rfl) (hg : ∀ r, letTemporaryGo value (.ref l) r = pure () := by intro _; with_unfolding_all rfl) :
    wpAny (model prog w) A (subscriptTail value slice (.ref l) (.int i u)) Q E s := by
  have hlt : i.toNat < vs.length := by rw [hI.length]; lia
  obtain ⟨b, t, ks, e1, e2, e3, e4⟩ := hI.at i.toNat _ (List.getElem?_eq_getElem hlt)
  have e5 : kss.getD i.toNat [] = ks := by rw [List.getD_eq_getElem?_getD, e2]; rfl
  exact itemV_led N hm h0 (by lia) ((List.getElem?_eq_getElem hlt).trans (congrArg some e1)) (h b t (by rw [e5]; exact e3) (by rw [e5]; exact e4) (by rw [e5]; exact e2)) hs hg
theorem append_led {n : Nat} {v : Value} {led' : List (Addr × Obj)} (F : Fr h₀ L s.heap m) (N : News h₀ L s.heap led) (U : Upd D (listOf vs.toArray n) (listOf (vs ++ [v]).toArray (n + 1)) led led') (hz : vs.length ≤ 1000000)
    (h : ∀ h', Fr h₀ L h' m → News h₀ L h' led' → Q .none { s with heap := h' }) : wpAny (model prog w) A (call (.builtin "list.append") [.ref D, v]) Q E s := by
  rw [← List.push_toArray] at U
  exact append_K F N U h (by rw [PySem.sizeLine_eq, List.size_toArray]; lia)
end
theorem ne_cells {L D : Nat} (h : ∀ k, k < 12 → D ≠ L + 1 + k) : D < L + 1 ∨ L + 12 < D := by
  rcases Nat.lt_or_ge D (L + 1) with g | g
  · exact .inl g
  · obtain ⟨k, rfl⟩ := Nat.exists_eq_add_of_le g
    rcases Nat.lt_or_ge k 12 with q | q
    · exact absurd rfl (h k q)
    · exact .inr (by lia)
theorem ne_cells12 {L D : Nat} (h1 : D ≠ L + 1) (h2 : D ≠ L + 2) (h3 : D ≠ L + 3) (h4 : D ≠ L + 4) (h5 : D ≠ L + 5) (h6 : D ≠ L + 6) (h7 : D ≠ L + 7) (h8 : D ≠ L + 8) (h9 : D ≠ L + 9) (h10 : D ≠ L + 10) (h11 : D ≠ L + 11) (h12 : D ≠ L + 12) :
    @LT.lt Nat instLTNat D (L + 1) ∨ @LT.lt Nat instLTNat (L + 12) D :=
  ne_cells fun k hk => match k, hk with
    | 0, _ => h1 | 1, _ => h2 | 2, _ => h3 | 3, _ => h4 | 4, _ => h5 | 5, _ => h6 | 6, _ => h7 | 7, _ => h8 | 8, _ => h9 | 9, _ => h10 | 10, _ => h11 | 11, _ => h12
    | k + 12, hk => absurd hk (Nat.not_lt.mpr (Nat.le_add_left 12 k))
theorem lawC_off2 {L D : Addr} {c1 c2 c3 c4 c5 c6 c7 c8 c9 c10 c11 c12 : Obj} {led : List (Addr × Obj)} (x : LCg.Off1 D (LawC L c1 c2 c3 c4 c5 c6 c7 c8 c9 c10 c11 c12 led)) :
    (@LT.lt Nat instLTNat D (L + 1) ∨ @LT.lt Nat instLTNat (L + 12) D) ∧ LCg.Off1 D led := by
  obtain ⟨h12, h11, h10, h9, h8, h7, h6, h5, h4, h3, h2, h1, x⟩ := x
  exact ⟨ne_cells12 h1.symm h2.symm h3.symm h4.symm h5.symm h6.symm h7.symm h8.symm h9.symm h10.symm h11.symm h12.symm, x⟩
theorem lawC_off3 {L D E : Addr} {o c1 c2 c3 c4 c5 c6 c7 c8 c9 c10 c11 c12 : Obj} {led : List (Addr × Obj)} (x : LCg.Off1 D ((E, o) :: LawC L c1 c2 c3 c4 c5 c6 c7 c8 c9 c10 c11 c12 led)) :
    @Ne Nat E D ∧ (@LT.lt Nat instLTNat D (L + 1) ∨ @LT.lt Nat instLTNat (L + 12) D) ∧ LCg.Off1 D led := ⟨x.1, lawC_off2 x.2⟩
theorem lawC_off1 {L D : Addr} {c1 c2 c3 c4 c5 c6 c7 c8 c9 c10 c11 c12 : Obj} {led : List (Addr × Obj)} (x : LCg.Off1 D (LawC L c1 c2 c3 c4 c5 c6 c7 c8 c9 c10 c11 c12 led)) : ∀ p ∈ led, p.1 ≠ D := by
  simp only [LCg.Off1] at x
  obtain ⟨_, _, _, _, _, _, _, _, _, _, _, _, x⟩ := x
  exact fun p hp e => off1_ne x p hp e.symm
theorem KeysAre.make {vs : List Value} {kss : List (List Int)} (x : KeysAre vs kss) : ∀ (i : Nat) v ks, vs[i]? = some v → kss[i]? = some ks → ∃ b t, v = .bytes b t ∧ KBw.bInts b = ks ∧ ks.length ≤ 1000 := by
  intro i v ks hv hk
  obtain ⟨b, t, ks', e1, e2, e3, e4⟩ := x.at i v hv
  rw [hk] at e2
  cases e2
  exact ⟨b, t, e1, e3, by lia⟩
theorem words_12 : True := by
  (k_with "subscriptTail" => (k_here; (with_reducible show wpAny _ _ (subscriptTail _ _ (Value.ref _) (Value.int _ _)) _ _ _); k_dflt (refine item_keys (by k_asm) (by k_mem) (by assumption) (by first | omega | (apply Int.emod_nonneg; omega)) (by first | omega | (apply Int.emod_lt_of_pos; omega)) (by omega) ?_; k_whole); intro _ _ _ _ _; (try dsimp only)))
  (k_with "call builtin:list.append" => (k_here; (with_reducible show wpAny _ _ (call (Value.builtin _) [Value.ref _, _]) _ _ _); k_dflt (refine append_led (by k_asm) (by k_asm) (by k_upd) (by omega) ?_; k_whole); intro h9 F9 N9; (try dsimp only at N9)))
  trivial
theorem segS {w : World} {mean : ExcName → Option Value} {mg mb : Str → Option Value} {dp un : Nat} {L fa : Addr} {cd : Value} {outer : List Env} {A₀ : Around} {base h₀ : Heap} {Q : Flow → Shared → Prop} {s : Shared} {m : Str → Option Value} {led : List (Addr × Obj)} (C : LawCx w mean mg mb dp un outer A₀ base h₀) (F : Fr h₀ L s.heap m) {l0 : Addr} {vs0 : List Value} {ns0 : List Int} (N : LawN h₀ L s.heap led none none none none none none none none none none none none)
    (ms : m (Str.ofString "script") = some (.ref l0)) (hL0 : h₀.IsList l0 vs0.toArray) (hI0 : IntsAre vs0 ns0) (hn0 : ns0.length ≤ 63)
    (cont : ∀ (m' : Str → Option Value) (h' : Heap) (tk' : Nat) (led' : List (Addr × Obj)) (l : Addr) (k : Nat) (vs : List Value) (ns : List Int), Fr h₀ L h' m' →
      LawN h₀ L h' led' (some (.ref l)) none none none none none none none none none none none → (l, listOf vs.toArray k) ∈ led' → IntsAre vs ns → 0 < ns.length → ns.length ≤ 40 → (∀ x ∈ ns, 0 ≤ x ∧ x < 999983) →
      LawAt w dp un L fa cd outer Q (fun _ _ => False) { s with heap := h', toks := tk' } 2) : LawAt w dp un L fa cd outer Q (fun _ _ => False) s 0 := by
  obtain ⟨B, K, T, hdp, hun⟩ := C
  obtain ⟨c1, c2, c3, c4, c5, c6, c7, c8, c9, c10, c11, c12, N, d1, d2, d3, d4, d5, d6, d7, d8, d9, d10, d11, d12, hgt⟩ := N
  replace F := knows F (kcons ms knil)
  refine lawAt_cut 2 ?_
  dsimp only [lawRec, lawEnv, lawTop, envOfC, recOf, List.take, List.drop]
  k_extra "m steps"
  rename News _ _ _ _ => N1
  rename Fr _ _ _ _ => F1
  rename IntsAre _ (List.take _ _) => hI1
  have hl1 : (List.take (Int.toNat 40) ns0).length ≤ 40 := by rw [List.length_take]; exact Nat.min_le_left _ _
  generalize List.take (Int.toNat 40) ns0 = ns1 at hI1 hl1 hC' hL'
  have hl2 := hI1.length
  clear F N
  refine LCg.CompSrc.ledger rfl F1 N1 (.head _) (by rw [PySem.sizeLine_eq, List.size_toArray]; omega) fun g => ?_
  refine comp_ind (fun j ys news => news = _ ∧ IntsAre ys ((ns1.take j).map (· % 999983))) ?_ ?_ _ _ _ _ (Nat.zero_add _) ⟨rfl, .nil⟩
  · rintro j v ys news I3 oI C oC D m3 h3 tk3 E3 hj hv ⟨rfl, hys⟩ hC hx F4 N4 off ne
    obtain ⟨x, tx, rfl, hx1⟩ := IntsAre.at hI1 j v (by simpa using hv)
    k_extra "m steps"
    refine LCg.CompEnd.intro (by assumption) (by assumption) _ (fun p hp => hp) off (.inr ⟨_, .head _, rfl, _, rfl⟩) ⟨rfl, ?_⟩
    rw [List.take_add_one, hx1, List.map_append, Int.fmod_eq_emod_of_nonneg _ (by decide)]
    exact IntsAre.append hys (.cons _ _ .nil)
  · rintro ys news ⟨rfl, hys⟩ D h5 tk5 F5 N5 off5
    rw [List.take_of_length_le (by rw [List.size_toArray]; omega)] at hys
    have hr : ∀ x ∈ ns1.map (· % 999983), 0 ≤ x ∧ x < 999983 := by
      intro x hx
      obtain ⟨y, _, rfl⟩ := List.mem_map.mp hx
      exact ⟨Int.emod_nonneg _ (by decide), Int.emod_lt_of_pos _ (by decide)⟩
    have hl3 : (ns1.map (· % 999983)).length ≤ 40 := by rw [List.length_map]; exact hl1
    generalize ns1.map (· % 999983) = ns2 at hys hr hl3
    clear F1 N1
    have lD1 := lawC_lt l1
    obtain ⟨hd5, hc5, off5⟩ := lawC_off3 off5
    k_extra "m steps"
    all_goals
      rename News _ _ _ _ => kN
      rename Fr _ _ _ _ => kF
    · exact cont _ _ _ _ _ _ _ _ kF ⟨_, _, _, _, _, _, _, _, _, _, _, _, lawC_pushs [_] (news_sub kN (nk (nd (nd (nr))))), by assumption, by assumption, by assumption, by assumption, by assumption, by assumption, by assumption, by assumption, by assumption, by assumption, by assumption, by assumption, off_cons (by omega) hgt⟩ (.head _) (.cons 0 _ .nil) (by decide) (by decide) (by decide)
    · exact cont _ _ _ _ _ _ _ _ kF ⟨_, _, _, _, _, _, _, _, _, _, _, _, lawC_pushs [_] (news_sub kN (nk (nd (nr)))), by assumption, by assumption, by assumption, by assumption, by assumption, by assumption, by assumption, by assumption, by assumption, by assumption, by assumption, by assumption, off_cons (by omega) hgt⟩ (.head _) hys (by omega) hl3 hr
theorem segC {w : World} {mean : ExcName → Option Value} {mg mb : Str → Option Value} {dp un : Nat} {L fa : Addr} {cd : Value} {outer : List Env} {A₀ : Around} {base h₀ : Heap} {Q : Flow → Shared → Prop} {s : Shared} {m : Str → Option Value} {led : List (Addr × Obj)} (C : LawCx w mean mg mb dp un outer A₀ base h₀) (F : Fr h₀ L s.heap m) {l : Addr} {k : Nat} {vs : List Value} {ns : List Int} {b bits n st : Int} {tb t1 t2 t3 : Tok} (N : LawN h₀ L s.heap led (some (.ref l)) (some (.int b tb)) (some (.int bits t1)) (some (.int n t2)) none none none none none none none none)
    (hl : (l, listOf vs.toArray k) ∈ led) (hI : IntsAre vs ns) (hn : 0 < ns.length) (hlen : ns.length ≤ 40) (hr : ∀ x ∈ ns, 0 ≤ x ∧ x < 999983) (hst : m (Str.ofString "strangers") = some (.int st t3)) (hb0 : 0 ≤ b) (hb1 : b < 1100000) (hn0 : 3 ≤ n) (hn1 : n ≤ 262)
    (cont : ∀ (m' : Str → Option Value) (h' : Heap) (tk' : Nat) (kl : Addr) (kk : Nat) (kv : List Value) (keys : List (List Int)), Fr h₀ L h' m' → m' (Str.ofString "strangers") = some (.int st t3) →
      LawN h₀ L h' ((kl, listOf kv.toArray kk) :: led) (some (.ref l)) (some (.int b tb)) (some (.int bits t1)) (some (.int n t2)) (some (.ref kl)) none none none none none none none → KeysAre kv keys → keys.length = n.toNat →
      LawAt w dp un L fa cd outer Q (fun _ _ => False) { s with heap := h', toks := tk' } 10) : LawAt w dp un L fa cd outer Q (fun _ _ => False) s 8 := by
  obtain ⟨B, K, T, hdp, hun⟩ := C
  obtain ⟨c1, c2, c3, c4, c5, c6, c7, c8, c9, c10, c11, c12, N, d1, d2, d3, d4, d5, d6, d7, d8, d9, d10, d11, d12, hgt⟩ := N
  replace F := knows F (kcons hst knil)
  refine lawAt_cut 2 ?_
  dsimp only [lawRec, lawEnv, lawTop, envOfC, recOf, List.take, List.drop]
  k_extra "m steps"
  rename News _ _ _ _ => N1
  rename Fr _ _ _ _ => F1
  rename IsRange _ _ _ _ _ _ _ _ => R1
  try clear F
  try clear N
  refine LCg.CompSrc.range (n := (n - 1).toNat) rfl F1 N1 R1 (small_of (by lia) (by lia) (by lia) (by lia) (by lia) (by lia)) (by rw [show (n : Int) - 1 = (((n - 1).toNat : Nat) : Int) by lia]; exact range1 _) (by rw [PySem.sizeLine_eq]; lia) fun g => ?_
  refine comp_ind (fun j ys news => news = _ ∧ ∃ kss, KeysAre ys kss ∧ kss.length = j) ?_ ?_ _ _ _ _ (Nat.zero_add _) ⟨rfl, [], .nil, rfl⟩
  · rintro j v ys news I3 oI C oC D m3 h3 tk3 E3 hj ⟨tj, rfl⟩ ⟨rfl, kss, hys, hkl⟩ hC hx F4 N4 off ne
    have hd1 := drawI_range (i := 2 + (0 + (j : Int))) hn (by lia) hr
    k_extra "m steps"
    have hwi := bInts_bytesOf (ks := wordK (drawI ns (2 + (0 + (j : Int))))) fun k hk => wordK_in hk
    have hwl := wordK_len (drawI ns (2 + (0 + (j : Int))))
    exact LCg.CompEnd.intro (by assumption) (by assumption) _ (fun p hp => hp) off trivial ⟨rfl, _, hys.append (.cons _ _ _ hwi hwl .nil), by rw [List.length_append, hkl]; rfl⟩
  · rintro ys news ⟨rfl, kss, hys, hkl⟩ D h5 tk5 F5 N5 off5
    have hD := lawC_off1 off5
    obtain ⟨hc5, off5⟩ := lawC_off2 off5
    have hm0 : 0 ≤ b.fmod (n - 1) := Int.fmod_nonneg_of_pos _ (by lia)
    have hm1 : b.fmod (n - 1) < n - 1 := Int.fmod_lt_of_pos _ (by lia)
    have hyl := hys.length
    k_extra "m steps"
    rename News _ _ _ _ => kN
    rename Fr _ _ _ _ => kF
    refine cont _ _ _ _ _ _ _ kF rfl ⟨_, _, _, _, _, _, _, _, _, _, _, _, lawC_pushs [_] (news_sub kN (nk (nr))), by assumption, by assumption, by assumption, by assumption, by assumption, by assumption, by assumption, by assumption, by assumption, by assumption, by assumption, by assumption, off_cons (by lia) hgt⟩ (hys.append (.cons _ _ _ (by assumption) (by assumption) .nil)) ?_
    rw [List.length_append, hkl, List.length_singleton]
    lia
section
variable {prog : Program} {w : World} {A : Around} {h₀ : Heap} {L : Addr} {m : Str → Option Value} {env : Env} {ct elt : PySem.Expr} {x : Str} {scope : Scope} {cl : List (Str × Addr)} {s : Shared} {S : List (Addr × Obj) → Prop} {P : Nat → Value → Prop} {Fin : List Value → List (Addr × Obj) → Prop}
/-- a comprehension with a test, by what holds between the turns -/
theorem comp_indT {n : Nat} (Φ : Nat → List Value → List (Addr × Obj) → Prop)
    (turn : ∀ i v ys news I oI C oC D m₂ h tk (E' : Value → Shared → Prop), i < n → P i v → Φ i ys news → LCg.NsObj oC m₂ → m₂ x = some v → Fr h₀ L h m → News h₀ L h ((I, oI) :: (C, oC) :: (D, LCg.lst ys) :: news) → LCg.Off3 I C D news → ((@Ne Nat I C) ∧ (@Ne Nat I D) ∧ (@Ne Nat C D)) →
      wpAny (model prog w) A (isTrue ct (compEnvC scope cl C env) (eval ct (compEnvC scope cl C env))) (fun ok s' => if ok = true then
        wpAny (model prog w) A (eval elt (compEnvC scope cl C env)) (LCg.CompEnd h₀ L m { s with heap := h, toks := tk } I oI C oC D (LCg.lst ys) S (fun y news' => Φ (i + 1) (ys ++ [y]) news')) E' s'
        else LCg.CompEnd h₀ L m { s with heap := h, toks := tk } I oI C oC D (LCg.lst ys) S (fun _ news' => Φ (i + 1) ys news') Value.none s') E' { s with heap := h, toks := tk })
    (fin : ∀ ys news, Φ n ys news → Fin ys news) :
    ∀ (k i : Nat) (ys : List Value) (news : List (Addr × Obj)), i + k = n → Φ i ys news → LCt.CompRestT prog w A h₀ L m env ct elt x scope cl s S P Fin k i ys news
  | 0, i, ys, news, hi, hΦ => by
    have : i = n := by lia
    subst this
    exact LCt.CompRestT.zero (fin ys news hΦ)
  | k + 1, i, ys, news, hi, hΦ => by
    refine LCt.CompRestT.succ ?_
    intro v I oI C oC D m₂ h tk E' hv hC hx F N off ne
    refine wpAny_mono (turn i v ys news I oI C oC D m₂ h tk E' (by lia) hv hΦ hC hx F N off ne) (fun b s₂ q => ?_) fun _ _ e => e
    cases b with
    | true =>
      simp only [if_true] at q ⊢
      refine wpAny_mono q (fun y s₃ r => ?_) fun _ _ e => e
      obtain ⟨h', tk', nw, e, F', N', off', hS, r⟩ := r
      exact ⟨h', tk', nw, e, F', N', off', hS, comp_indT Φ turn fin k (i + 1) (ys ++ [y]) nw (by lia) r⟩
    | false =>
      simp only [Bool.false_eq_true, if_false] at q ⊢
      obtain ⟨h', tk', nw, e, F', N', off', hS, r⟩ := q
      exact ⟨h', tk', nw, e, F', N', off', hS, comp_indT Φ turn fin k (i + 1) ys nw (by lia) r⟩
end
theorem probesK_max {bits M : Int} {ks : List Int} (hb0 : 1 ≤ bits) (hM : M ∈ [(1 : Int)] ++ ks) (hmax : ∀ a, a ∈ [(1 : Int)] ++ ks → a ≤ M) (hks : ∀ x, x ∈ ks ↔ 1 ≤ x ∧ x < 31 ∧ 100 * x ≤ 69 * bits) : M = probesK bits := by
  have h1 := hmax 1 (by simp)
  have hP := probesK_range bits
  have h2 : M = 1 ∨ (1 ≤ M ∧ M < 31 ∧ 100 * M ≤ 69 * bits) := by
    rcases List.mem_append.mp hM with h | h
    · exact .inl (List.mem_singleton.mp h)
    · exact .inr ((hks M).mp h)
  have h3 : ∀ x : Int, 1 ≤ x → x < 31 → 100 * x ≤ 69 * bits → x ≤ M := fun x a b c => hmax x (List.mem_append.mpr (.inr ((hks x).mpr ⟨a, b, c⟩)))
  have h4 := h3 (probesK bits)
  unfold probesK at hP h4 ⊢
  split at h4 <;> split at hP <;> lia
theorem segD {w : World} {mean : ExcName → Option Value} {mg mb : Str → Option Value} {dp un : Nat} {L fa : Addr} {cd : Value} {outer : List Env} {A₀ : Around} {base h₀ : Heap} {Q : Flow → Shared → Prop} {s : Shared} {m : Str → Option Value} {led : List (Addr × Obj)} (C : LawCx w mean mg mb dp un outer A₀ base h₀) (F : Fr h₀ L s.heap m) {v1 : Option Value} {b bits st : Int} {tb t1 t2 t3 : Tok} {kl : Addr} {keys : List (List Int)} (N : LawN h₀ L s.heap led v1 (some (.int b tb)) (some (.int bits t1)) (some (.int keys.length t2)) (some (.ref kl)) none none none none none none none)
    (hst : m (Str.ofString "strangers") = some (.int st t3)) (hb0 : 1 ≤ bits) (hb1 : bits ≤ 1100) (hn0 : 3 ≤ keys.length) (hn1 : keys.length ≤ 262)
    (cont : ∀ (m' : Str → Option Value) (h' : Heap) (tk' : Nat) (t4 t5 : Tok), Fr h₀ L h' m' → m' (Str.ofString "strangers") = some (.int st t3) →
      LawN h₀ L h' led v1 (some (.int b tb)) (some (.int bits t1)) (some (.int keys.length t2)) (some (.ref kl)) (some (.int (probesK bits) t4)) (some (.int (lengthK keys.length bits) t5)) none none none none none →
      LawAt w dp un L fa cd outer Q (fun _ _ => False) { s with heap := h', toks := tk' } 12) : LawAt w dp un L fa cd outer Q (fun _ _ => False) s 10 := by
  obtain ⟨B, K, T, hdp, hun⟩ := C
  obtain ⟨c1, c2, c3, c4, c5, c6, c7, c8, c9, c10, c11, c12, N, d1, d2, d3, d4, d5, d6, d7, d8, d9, d10, d11, d12, hgt⟩ := N
  replace F := knows F (kcons hst knil)
  refine lawAt_cut 2 ?_
  dsimp only [lawRec, lawEnv, lawTop, envOfC, recOf, List.take, List.drop]
  k_extra "n steps"
  rename News _ _ _ _ => N1
  rename Fr _ _ _ _ => F1
  rename IsRange _ _ _ _ _ _ _ _ => R1
  refine LCt.CompSrcT.range (n := 30) rfl F1 N1 R1 (by decide) (by decide) (by rw [PySem.sizeLine_eq]; omega) fun g => ?_
  refine comp_indT (fun j ys news => news = _ ∧ ∃ ks, IntsAre ys ks ∧ ks.length ≤ j ∧ ∀ x, x ∈ ks ↔ 1 ≤ x ∧ x < 1 + (j : Int) ∧ 100 * x ≤ 69 * bits) ?_ ?_ _ _ _ _ (Nat.zero_add _) ⟨rfl, [], .nil, Nat.le_refl _, fun x => ⟨fun h => (nomatch h), fun h => by omega⟩⟩
  · rintro j v ys news I3 oI C oC D m3 h3 tk3 E3 hj ⟨tj, rfl⟩ ⟨rfl, ks, hys, hkl, hks⟩ hC hx F4 N4 off ne
    k_extra "n steps"
    · rename 100 * _ ≤ _ => ha
      refine LCg.CompEnd.intro (by assumption) (by assumption) _ (fun p hp => hp) off trivial ⟨rfl, _, hys.append (.cons _ _ .nil), by rw [List.length_append, List.length_singleton]; omega, fun x => ?_⟩
      rw [List.mem_append, List.mem_singleton, hks]
      omega
    · rename ¬ 100 * _ ≤ _ => ha
      refine LCg.CompEnd.intro (by assumption) (by assumption) _ (fun p hp => hp) off trivial ⟨rfl, _, hys, by omega, fun x => ?_⟩
      rw [hks]
      omega
  · rintro ys news ⟨rfl, ks, hys, hkl, hks⟩ D h5 tk5 F5 N5 off5
    obtain ⟨hd5, hc5, off5⟩ := lawC_off3 off5
    k_extra "n steps"
    rename News _ _ _ _ => kN
    rename Fr _ _ _ _ => kF
    rename_i dd
    rename (_ ∈ [(1 : Int)] ++ _) => hM
    rename (∀ a, a ∈ [(1 : Int)] ++ _ → _) => hmax
    have e1 := probesK_max hb0 hM hmax hks
    subst e1
    have e2 : (if ((keys.length : Int) * bits - 1).fdiv 8 + 1 > 8 then ((keys.length : Int) * bits - 1).fdiv 8 + 1 else 8) = lengthK keys.length bits := by
      unfold lengthK
      rw [fdiv8]
      split <;> split <;> omega
    rw [e2] at dd
    exact cont _ _ _ _ _ kF rfl ⟨_, _, _, _, _, _, _, _, _, _, _, _, news_sub kN fun p hp => .tail _ (.tail _ (.tail _ (hp))), by assumption, by assumption, by assumption, by assumption, by assumption, by assumption, by assumption, by assumption, by assumption, by assumption, by assumption, by assumption, hgt⟩
section
variable {w : World} {mean : ExcName → Option Value} {mg mb : Str → Option Value} {led : List (Addr × Obj)} {dp un : Nat} {gd : Option (List Code)} {cn : Str} {cs : Scope} {a : Addr} {ccd : Value} {cl : List (Str × Addr)} {outer : List Env} {A₀ : Around} {base h₀ : Heap} {L : Addr} {m : Str → Option Value} {s : Shared} {Q E : Value → Shared → Prop}
theorem spots_call {b : Array UInt8} {tb tp tw : Tok} {ks : List Int} {p wd : Int} (hks : KBw.bInts b = ks) (hb : ks.length ≤ 1000) (hp0 : 0 ≤ p) (hp : p ≤ 30) (hw0 : 0 < wd) (hw : wd ≤ 1000000)
    (B : Below A₀ base outer h₀) (F : Fr h₀ L s.heap m) (X : (hd.heap_39 w.params).In h₀) (N : News h₀ L s.heap led) (T : Top hd.view_39 [] mean mg mb h₀) (hk : cs.kind = .function)
    (hd : dp + 1 < recursionLimit) (hu : un + 20 * 1 < cLine) (h : ∀ D vs k h' tk', IntsAre vs (spotsK ks p.toNat wd) → Fr h₀ L h' m → News h₀ L h' ((D, listOf vs.toArray k) :: led) → (∀ q ∈ led, @Ne Nat D q.1) → Q (.ref D) { s with heap := h', toks := tk' }) :
    wpAny (model pr w) (ktrTop dp un gd cn cs L a ccd cl outer) (call (.ref 143) [.bytes b tb, .int p tp, .int wd tw]) Q E s := by
  refine Spec1.use (spots_spec b tb tp tw ks hks hb p wd hp0 hp hw0 hw) B F X N T hk hd hu ?_
  rintro v own h' tk' ⟨D, vs, k, rfl, rfl, hI⟩ F' N' ne
  exact h D vs k h' tk' hI F' N' (ne _ (.head _))
theorem bloom_call {bits : Int} {tb : Tok} (hb0 : 1 ≤ bits) (hb : bits ≤ 100000)
    (B : Below A₀ base outer h₀) (F : Fr h₀ L s.heap m) (X : (hd.heap_39 w.params).In h₀) (N : News h₀ L s.heap led) (T : Top hd.view_39 [] mean mg mb h₀) (hk : cs.kind = .function)
    (hd : dp + 2 < recursionLimit) (hu : un + 20 * 2 < cLine) (h : ∀ x d k1 t1 k2 t2 h' tk', Fr h₀ L h' m → News h₀ L h' ((x, instObj 120 d) :: (d, bloomDict w bits (probesK bits) k1 t1 k2 t2) :: led) → (∀ q ∈ led, @Ne Nat x q.1) → (∀ q ∈ led, @Ne Nat d q.1) →
      @LT.lt Nat instLTNat d x → Q (.ref x) { s with heap := h', toks := tk' }) :
    wpAny (model pr w) (ktrTop dp un gd cn cs L a ccd cl outer) (call (.ref 120) [.int bits tb]) Q E s := by
  refine Spec1.use (bloom_spec bits tb hb0 hb) B F X N T hk hd hu ?_
  rintro v own h' tk' ⟨x, d, k1, t1, k2, t2, rfl, rfl, lt⟩ F' N' ne
  exact h x d k1 t1 k2 t2 h' tk' F' N' (ne _ (.head _)) (ne _ (.tail _ (.head _))) lt
end
theorem words_13 : True := by
  (k_with "call ref" => (k_here; (with_reducible show wpAny _ _ (call (Value.ref 143) _) _ _ _); k_dflt (refine spots_call (by assumption) (by omega) (by omega) (by omega) (by omega) (by omega) (by k_asm) (by k_asm) (by k_asm) (by k_asm) (by k_asm) (by first | exact rfl | assumption) (by ktr_room) (by ktr_units) ?_; k_whole); intro D9 vs9 k9 h9 tk9 hI9 F9 N9 ne9; (try dsimp only); (try k_fold)))
  (k_with "call ref" => (k_here; (with_reducible show wpAny _ _ (call (Value.ref 120) _) _ _ _); k_dflt (refine bloom_call (by omega) (by omega) (by k_asm) (by k_asm) (by k_asm) (by k_asm) (by k_asm) (by first | exact rfl | assumption) (by ktr_room) (by ktr_units) ?_; k_whole); intro x9 d9 k19 t19 k29 t29 h9 tk9 F9 N9 nx9 nd9 lt9; (try dsimp only); (try k_fold)))
  trivial
noncomputable def RowsAre (led : List (Addr × Obj)) (vs : List Value) (rs : List (List Int)) : Prop := vs.length = rs.length ∧ ∀ (i : Nat) v r, vs[i]? = some v → rs[i]? = some r → RowAt led v r
theorem RowsAre.nil {led : List (Addr × Obj)} : RowsAre led [] [] := ⟨rfl, fun _ _ _ h => nomatch h⟩
theorem RowAt.mono {led led' : List (Addr × Obj)} {v : Value} {r : List Int} (h : ∀ p ∈ led, p ∈ led') (x : RowAt led v r) : RowAt led' v r := by
  obtain ⟨a, vs, k, e, hm, hI⟩ := x
  exact ⟨a, vs, k, e, h _ hm, hI⟩
theorem RowsAre.mono {led led' : List (Addr × Obj)} {vs : List Value} {rs : List (List Int)} (h : ∀ p ∈ led, p ∈ led') (x : RowsAre led vs rs) : RowsAre led' vs rs :=
  ⟨x.1, fun i v r a b => (x.2 i v r a b).mono h⟩
theorem RowsAre.snoc {led : List (Addr × Obj)} {vs : List Value} {rs : List (List Int)} {v : Value} {r : List Int} (x : RowsAre led vs rs) (h : RowAt led v r) : RowsAre led (vs ++ [v]) (rs ++ [r]) := by
  refine ⟨by rw [List.length_append, List.length_append, x.1]; rfl, fun i w q a b => ?_⟩
  by_cases hi : i < vs.length
  · rw [List.getElem?_append_left hi] at a
    rw [List.getElem?_append_left (by rw [← x.1]; exact hi)] at b
    exact x.2 i w q a b
  · rw [List.getElem?_append_right (by lia)] at a
    rw [List.getElem?_append_right (by rw [← x.1]; lia)] at b
    have e : i - vs.length = 0 := by
      cases hz : i - vs.length with
      | zero => rfl
      | succ k => rw [hz] at a; cases a
    rw [e] at a
    rw [← x.1, e] at b
    cases a; cases b
    exact h
theorem lawC_mem {L : Addr} {c1 c2 c3 c4 c5 c6 c7 c8 c9 c10 c11 c12 : Obj} {q : Addr × Obj} {led : List (Addr × Obj)} {p : Addr × Obj} (h : p ∈ LawC L c1 c2 c3 c4 c5 c6 c7 c8 c9 c10 c11 c12 (q :: led)) : p = q ∨ p ∈ LawC L c1 c2 c3 c4 c5 c6 c7 c8 c9 c10 c11 c12 led := by
  unfold LawC at h ⊢
  simp only [List.mem_cons] at h ⊢
  rcases h with h | h | h | h | h | h | h | h | h | h | h | h | h | h <;> simp only [h, true_or, or_true]
theorem lawC_sub {L : Addr} {c1 c2 c3 c4 c5 c6 c7 c8 c9 c10 c11 c12 : Obj} {led led' : List (Addr × Obj)} (hs : ∀ p ∈ led, p ∈ led') : ∀ p ∈ LawC L c1 c2 c3 c4 c5 c6 c7 c8 c9 c10 c11 c12 led, p ∈ LawC L c1 c2 c3 c4 c5 c6 c7 c8 c9 c10 c11 c12 led' :=
  nk (nk (nk (nk (nk (nk (nk (nk (nk (nk (nk (nk hs)))))))))))
theorem off3_push {L I C D : Addr} {c1 c2 c3 c4 c5 c6 c7 c8 c9 c10 c11 c12 : Obj} {q : Addr × Obj} {led : List (Addr × Obj)} (off : LCg.Off3 I C D (LawC L c1 c2 c3 c4 c5 c6 c7 c8 c9 c10 c11 c12 led)) (h : q.1 ≠ I ∧ q.1 ≠ C ∧ q.1 ≠ D) :
    LCg.Off3 I C D (LawC L c1 c2 c3 c4 c5 c6 c7 c8 c9 c10 c11 c12 (q :: led)) := LCg.Off3.of fun p hp => by
  rcases lawC_mem hp with rfl | hp
  · exact h
  · exact LCg.Off3.mem off p hp
theorem off_of_ne {L D : Nat} {c1 c2 c3 c4 c5 c6 c7 c8 c9 c10 c11 c12 : Obj} {led : List (Addr × Obj)} (h : ∀ q ∈ LawC L c1 c2 c3 c4 c5 c6 c7 c8 c9 c10 c11 c12 led, D ≠ q.1) : @LT.lt Nat instLTNat D (L + 1) ∨ @LT.lt Nat instLTNat (L + 12) D := by
  unfold LawC at h
  simp only [List.forall_mem_cons] at h
  obtain ⟨h12, h11, h10, h9, h8, h7, h6, h5, h4, h3, h2, h1, -⟩ := h
  exact ne_cells12 h1 h2 h3 h4 h5 h6 h7 h8 h9 h10 h11 h12
theorem lawC_in {L : Addr} {c1 c2 c3 c4 c5 c6 c7 c8 c9 c10 c11 c12 : Obj} {led : List (Addr × Obj)} {p : Addr × Obj} (h : p ∈ led) : p ∈ LawC L c1 c2 c3 c4 c5 c6 c7 c8 c9 c10 c11 c12 led :=
  .tail _ (.tail _ (.tail _ (.tail _ (.tail _ (.tail _ (.tail _ (.tail _ (.tail _ (.tail _ (.tail _ (.tail _ h)))))))))))
theorem comp_sub {L : Addr} {c1 c2 c3 c4 c5 c6 c7 c8 c9 c10 c11 c12 : Obj} {led : List (Addr × Obj)} {a b c q : Addr × Obj} : ∀ p ∈ a :: b :: c :: LawC L c1 c2 c3 c4 c5 c6 c7 c8 c9 c10 c11 c12 (q :: led), p ∈ q :: a :: b :: c :: LawC L c1 c2 c3 c4 c5 c6 c7 c8 c9 c10 c11 c12 led := by
  intro p hp
  rcases List.mem_cons.mp hp with rfl | hp
  · exact .tail _ (.head _)
  rcases List.mem_cons.mp hp with rfl | hp
  · exact .tail _ (.tail _ (.head _))
  rcases List.mem_cons.mp hp with rfl | hp
  · exact .tail _ (.tail _ (.tail _ (.head _)))
  rcases lawC_mem hp with rfl | hp
  · exact .head _
  · exact .tail _ (.tail _ (.tail _ (.tail _ hp)))
theorem segE {w : World} {mean : ExcName → Option Value} {mg mb : Str → Option Value} {dp un : Nat} {L fa : Addr} {cd : Value} {outer : List Env} {A₀ : Around} {base h₀ : Heap} {Q : Flow → Shared → Prop} {s : Shared} {m : Str → Option Value} {led : List (Addr × Obj)} (C : LawCx w mean mg mb dp un outer A₀ base h₀) (F : Fr h₀ L s.heap m) {v1 v2 v3 : Option Value} {n p oc st : Int} {t2 t3 t4 t5 : Tok} {kl : Addr} {kk : Nat} {kv : List Value} {keys : List (List Int)} (N : LawN h₀ L s.heap led v1 v2 v3 (some (.int n t2)) (some (.ref kl)) (some (.int p t4)) (some (.int oc t5)) none none none none none)
    (hkl : (kl, listOf kv.toArray kk) ∈ led) (hK : KeysAre kv keys) (hst : m (Str.ofString "strangers") = some (.int st t3)) (hp0 : 1 ≤ p) (hp1 : p ≤ 30) (ho0 : 1 ≤ oc) (ho1 : oc ≤ 100000) (hn1 : keys.length ≤ 262)
    (cont : ∀ (m' : Str → Option Value) (h' : Heap) (tk' : Nat) (led' : List (Addr × Obj)) (rl : Addr) (rk : Nat) (rv : List Value), Fr h₀ L h' m' → m' (Str.ofString "strangers") = some (.int st t3) →
      LawN h₀ L h' ((rl, listOf rv.toArray rk) :: (led' ++ led)) v1 v2 v3 (some (.int n t2)) (some (.ref kl)) (some (.int p t4)) (some (.int oc t5)) (some (.ref rl)) none none none none → RowsAre led' rv (keys.map fun ks => spotsK ks p.toNat (8 * oc)) →
      LawAt w dp un L fa cd outer Q (fun _ _ => False) { s with heap := h', toks := tk' } 13) : LawAt w dp un L fa cd outer Q (fun _ _ => False) s 12 := by
  obtain ⟨B, K, T, hdp, hun⟩ := C
  obtain ⟨c1, c2, c3, c4, c5, c6, c7, c8, c9, c10, c11, c12, N, d1, d2, d3, d4, d5, d6, d7, d8, d9, d10, d11, d12, hgt⟩ := N
  replace F := knows F (kcons hst knil)
  refine lawAt_cut 1 ?_
  dsimp only [lawRec, lawEnv, lawTop, envOfC, recOf, List.take, List.drop]
  k_extra "m steps"
  rename News _ _ _ _ => N1
  rename Fr _ _ _ _ => F1
  have hkv := hK.length
  refine LCg.CompSrc.ledger rfl F1 N1 (by k_mem) (by rw [PySem.sizeLine_eq, List.size_toArray]; omega) fun g => ?_
  refine comp_ind (fun j ys news => ∃ rws, news = LawC L c1 c2 c3 c4 c5 c6 c7 c8 c9 c10 c11 c12 (rws ++ led) ∧ LawOff L rws ∧ RowsAre rws ys ((keys.take j).map fun ks => spotsK ks p.toNat (8 * oc))) ?_ ?_ _ _ _ _ (Nat.zero_add _) ⟨[], rfl, off_nil, .nil⟩
  · rintro j v ys news I3 oI C oC D m3 h3 tk3 E3 hj hv ⟨rws, rfl, hof, hR⟩ hC hx F4 N4 off ne
    obtain ⟨kb, kt, ks, rfl, hks1, hks2, hks3⟩ := hK.at j v (by simpa using hv)
    k_extra "m steps"
    rename (∀ q : Addr × Obj, q ∈ _ → @Ne Nat _ q.1) => ne9
    rename IntsAre _ (spotsK _ _ _) => hI9
    refine LCg.CompEnd.intro (by assumption) (by assumption) _ comp_sub (off3_push off ⟨ne9 _ (.head _), ne9 _ (.tail _ (.head _)), ne9 _ (.tail _ (.tail _ (.head _)))⟩) (.inr ⟨_, lawC_in (List.mem_append_right (_ :: _) hkl), rfl, _, rfl⟩)
      ⟨_ :: rws, rfl, off_cons (off_of_ne fun q hq => ne9 q (.tail _ (.tail _ (.tail _ hq)))) hof, ?_⟩
    rw [List.take_add_one, hks1, List.map_append]
    exact (hR.mono fun p hp => .tail _ hp).snoc ⟨_, _, _, rfl, .head _, hI9⟩
  · rintro ys news ⟨rws, rfl, hof, hR⟩ D h5 tk5 F5 N5 off5
    have hD := lawC_off1 off5
    obtain ⟨hc5, off5⟩ := lawC_off2 off5
    rw [List.take_of_length_le (by rw [List.size_toArray]; omega)] at hR
    have hof2 : LawOff L (rws ++ led) := fun p hp => (List.mem_append.mp hp).elim (hof p) (hgt p)
    k_extra "m steps"
    rename News _ _ _ _ => kN
    rename Fr _ _ _ _ => kF
    exact cont _ _ _ rws _ _ _ kF rfl ⟨_, _, _, _, _, _, _, _, _, _, _, _, lawC_pushs [_] (news_sub kN (nk (nr))), by assumption, by assumption, by assumption, by assumption, by assumption, by assumption, by assumption, by assumption, by assumption, by assumption, by assumption, by assumption, off_cons (by omega) hof2⟩ hR
theorem slice_all_led {prog : Program} {w : World} {A : Around} {E : Value → Shared → Prop} {s : Shared} {h₀ : Heap} {L l : Addr} {m : Str → Option Value} {news : List (Addr × Obj)} {vs : List Value} {k : Nat} {Q : Value → Shared → Prop} {value slice : PySem.Expr}
    (F : Fr h₀ L s.heap m) (N : News h₀ L s.heap news) (hm : (l, listOf vs.toArray k) ∈ news) (hz : vs.length ≤ 16777216)
    (h : ∀ D h', Fr h₀ L h' m → News h₀ L h' ((D, listOf vs.toArray 0) :: news) → (∀ p ∈ news, p.1 < D) → Q (.ref D) { s with heap := h' })
    (hs : subscripted slice false (.ref l) (.ref s.heap.objs.size) = operate [.ref s.heap.objs.size, .ref l] (getItem (.ref l) (.ref s.heap.objs.size))) (ht : ∀ r, letTemporaryGo value (.ref l) r = pure ()) :
    wpAny (model prog w) A (subscriptTail value slice (.ref l) (.ref s.heap.objs.size)) Q E { s with heap := s.heap.push { cls := .type "slice", data := .fields #[.none, .none, .none] } } :=
  kmk_slice_lit F N (isl N hm) IsPart.none IsPart.none (by rw [slicePick_all]) h hs ht (by rw [List.size_toArray, PySem.sizeLine_eq]; exact hz)
theorem words_14 : True := by
  (k_with "subscriptTail Name Slice ref ref" => (k_here; (with_reducible show wpAny _ _ (subscriptTail _ (PySem.Expr.Slice none none none _) (Value.ref _) (Value.ref _)) _ _ _); k_dflt (refine slice_all_led (by k_asm) (by k_asm) (by k_mem) (by omega) ?_ (by with_unfolding_all rfl) (by kmk_pure)); intro D9 h9 F9 N9 l9; (try dsimp only)))
  trivial
theorem segF {w : World} {mean : ExcName → Option Value} {mg mb : Str → Option Value} {dp un : Nat} {L fa : Addr} {cd : Value} {outer : List Env} {A₀ : Around} {base h₀ : Heap} {Q : Flow → Shared → Prop} {s : Shared} {m : Str → Option Value} {led : List (Addr × Obj)} (C : LawCx w mean mg mb dp un outer A₀ base h₀) (F : Fr h₀ L s.heap m) {v1 v2 v4 v6 v7 v8 : Option Value} {bits st : Int} {t1 t3 : Tok} {kl : Addr} {kk : Nat} {kv : List Value} {keys : List (List Int)} (N : LawN h₀ L s.heap led v1 v2 (some (.int bits t1)) v4 (some (.ref kl)) v6 v7 v8 none none none none)
    (hkl : (kl, listOf kv.toArray kk) ∈ led) (hK : KeysAre kv keys) (hst : m (Str.ofString "strangers") = some (.int st t3)) (hb0 : 1 ≤ bits) (hb1 : bits ≤ 1100) (hn1 : keys.length ≤ 262)
    (cont : ∀ (m' : Str → Option Value) (h' : Heap) (tk' : Nat) (x d tl : Addr) (k1 q1 k2 q2 : Tok) (tn : Nat), Fr h₀ L h' m' → m' (Str.ofString "strangers") = some (.int st t3) → m' (Str.ofString "told") = some (.ref tl) → m' (Str.ofString "bloom") = some (.ref x) →
      LawN h₀ L h' ((x, instObj 120 d) :: (d, bloomDict w bits (probesK bits) k1 q1 k2 q2) :: (tl, listOf kv.toArray tn) :: led) v1 v2 (some (.int bits t1)) v4 (some (.ref kl)) v6 v7 v8 none none none none →
      LawAt w dp un L fa cd outer Q (fun _ _ => False) { s with heap := h', toks := tk' } 15) : LawAt w dp un L fa cd outer Q (fun _ _ => False) s 13 := by
  obtain ⟨B, K, T, hdp, hun⟩ := C
  obtain ⟨c1, c2, c3, c4, c5, c6, c7, c8, c9, c10, c11, c12, N, d1, d2, d3, d4, d5, d6, d7, d8, d9, d10, d11, d12, hgt⟩ := N
  replace F := knows F (kcons hst knil)
  have hkv := hK.length
  refine lawAt_cut 2 ?_
  dsimp only [lawRec, lawEnv, lawTop, envOfC, recOf, List.take, List.drop]
  k_extra "m steps"
  rename News _ _ _ _ => kN
  rename Fr _ _ _ _ => kF
  have o1 := off_of_ne fun q hq => nx9 q (.tail _ hq)
  have o2 := off_of_ne fun q hq => nd9 q (.tail _ hq)
  have o3 := lawC_lt l9
  exact cont _ _ _ _ _ _ _ _ _ _ _ kF rfl rfl rfl ⟨_, _, _, _, _, _, _, _, _, _, _, _, lawC_pushs [_, _, _] (news_sub kN (nk (nk (nk (nr))))), by assumption, by assumption, by assumption, by assumption, by assumption, by assumption, by assumption, by assumption, by assumption, by assumption, by assumption, by assumption, off_cons o1 (off_cons o2 (off_cons (.inr o3) hgt))⟩
theorem segG {w : World} {mean : ExcName → Option Value} {mg mb : Str → Option Value} {dp un : Nat} {L fa : Addr} {cd : Value} {outer : List Env} {A₀ : Around} {base h₀ : Heap} {Q : Flow → Shared → Prop} {s : Shared} {m : Str → Option Value} {led : List (Addr × Obj)} (C : LawCx w mean mg mb dp un outer A₀ base h₀) (F : Fr h₀ L s.heap m) {v1 v2 v3 v4 v5 v6 v7 v8 : Option Value} {bits st : Int} {t3 k1 q1 k2 q2 : Tok} {x d tl : Addr} {tn : Nat} {kv : List Value} {keys : List (List Int)} (N : LawN h₀ L s.heap led v1 v2 v3 v4 v5 v6 v7 v8 none none none none)
    (hx : (x, instObj 120 d) ∈ led) (hd' : (d, bloomDict w bits (probesK bits) k1 q1 k2 q2) ∈ led) (htl : (tl, listOf kv.toArray tn) ∈ led) (hK : KeysAre kv keys) (hst : m (Str.ofString "strangers") = some (.int st t3)) (hmt : m (Str.ofString "told") = some (.ref tl)) (hmb : m (Str.ofString "bloom") = some (.ref x))
    (hb0 : 1 ≤ bits) (hb1 : bits ≤ 1100) (hn1 : keys.length ≤ 262)
    (cont : ∀ (m' : Str → Option Value) (h' : Heap) (tk' : Nat) (t9 : Tok), Fr h₀ L h' m' → m' (Str.ofString "strangers") = some (.int st t3) → m' (Str.ofString "told") = some (.ref tl) → m' (Str.ofString "bloom") = some (.ref x) →
      m' (Str.ofString "held") = some (.bytes (bytesOf (filterK (spotsAll keys (probesK bits).toNat (8 * lengthK keys.length bits)) (lengthK keys.length bits).toNat (probesK bits))) t9) →
      LawN h₀ L h' led v1 v2 v3 v4 v5 v6 v7 v8 none none none none → LawAt w dp un L fa cd outer Q (fun _ _ => False) { s with heap := h', toks := tk' } 16) : LawAt w dp un L fa cd outer Q (fun _ _ => False) s 15 := by
  obtain ⟨B, K, T, hdp, hun⟩ := C
  obtain ⟨c1, c2, c3, c4, c5, c6, c7, c8, c9, c10, c11, c12, N, d1, d2, d3, d4, d5, d6, d7, d8, d9, d10, d11, d12, hgt⟩ := N
  replace F := knows F (kcons hst (kcons hmt (kcons hmb knil)))
  refine lawAt_one (k := 15) rfl ?_
  dsimp only [lawRec, lawEnv, lawTop, envOfC, recOf, List.take, List.drop]
  refine assign_G (method_G ?_)
  k_extra "m steps"
  refine callArgs_G (K := (hd.heap_39 w.params).In) (keeps_K ?_) ?_
  · k_dflt k_is
  k_extra "m steps"
  refine make_spec x d tl bits k1 q1 k2 q2 tn kv keys (lawC_in hx) (lawC_in hd') (lawC_in htl) hK.length hK.make hb0 (by omega) (by omega) _ _ _ _ _ _ _ _ _ _ _ _ _ _ _ _ B F K N T rfl (by omega) (by omega) ?_
  intro t9 h9 tk9 F9 N9
  dsimp only
  clear F N
  k_extra "m steps"
  rename News _ _ _ _ => kN
  rename Fr _ _ _ _ => kF
  exact cont _ _ _ _ kF rfl rfl rfl rfl ⟨_, _, _, _, _, _, _, _, _, _, _, _, news_sub kN fun p hp => hp, by assumption, by assumption, by assumption, by assumption, by assumption, by assumption, by assumption, by assumption, by assumption, by assumption, by assumption, by assumption, hgt⟩
theorem ne_same_list {prog : Program} {w : World} {A : Around} {E : Value → Shared → Prop} {s : Shared} {h₀ : Heap} {L a b : Addr} {led : List (Addr × Obj)} {vs : List Value} {k1 k2 : Nat} {Q : Value → Shared → Prop}
    (N : News h₀ L s.heap led) (ha : (a, listOf vs.toArray k1) ∈ led) (hb : (b, listOf vs.toArray k2) ∈ led) (hu : A.units < cLine) (h : Q (.bool false) s) : wpAny (model prog w) A (compareOp .NotEq (.ref a) (.ref b)) Q E s := by
  refine (SeqAt.RcNeAt.lists (e := fun _ => true) (isl N ha) (isl N hb) rfl hu fun j h1 h2 => SeqAt.EqAt.same _) prog w E Q ?_
  have e : (List.range vs.toArray.size).all (fun _ => true) = true := List.all_eq_true.mpr fun _ _ => rfl
  rw [e]
  exact h
theorem spotsAll_in {keys : List (List Int)} {p : Nat} {wd x : Int} (hw : 0 < wd) (h : x ∈ (keys.map fun ks => spotsK ks p wd).flatten) : 0 ≤ x ∧ x < wd := by
  obtain ⟨r, hr, hx⟩ := List.mem_flatten.mp h
  obtain ⟨ks, _, rfl⟩ := List.mem_map.mp hr
  exact spotsK_in hw hx
theorem spotsAll_len (keys : List (List Int)) (p : Nat) (wd : Int) : (keys.map fun ks => spotsK ks p wd).flatten.length = keys.length * p := by
  induction keys with
  | nil => simp
  | cons k r ih => rw [List.map_cons, List.flatten_cons, List.length_append, ih, spotsK_len, List.length_cons, Nat.succ_mul, Nat.add_comm]
theorem words_15 : True := by
  (k_with "compareOp NotEq ref ref" => (k_here; (with_reducible show wpAny _ _ (compareOp CmpOp.NotEq (Value.ref _) (Value.ref _)) _ _ _); k_dflt (refine ne_same_list (by k_asm) (by k_mem) (by k_mem) (by ktr_units) ?_; k_whole)))
  (k_with "call ref" => (k_here; (with_reducible show wpAny _ _ (call (Value.ref 150) _) _ _ _); k_dflt (refine Pure1.call (by k_asm) (by k_asm) (by k_asm) (by k_asm) (by k_asm) (by first | exact rfl | assumption) (by ktr_room) (by ktr_units) (filter_spec _ _ _ _ (by k_mem) (by assumption) (by assumption) _ _ _ _ (by omega) (by omega) (by omega) (by omega) (by assumption) (by assumption)) ?_; k_whole); intro t9 h9 tk9 F9 N9; (try dsimp only); (try k_fold)))
  trivial
theorem segH {w : World} {mean : ExcName → Option Value} {mg mb : Str → Option Value} {dp un : Nat} {L fa : Addr} {cd : Value} {outer : List Env} {A₀ : Around} {base h₀ : Heap} {Q : Flow → Shared → Prop} {s : Shared} {m : Str → Option Value} {led : List (Addr × Obj)} (C : LawCx w mean mg mb dp un outer A₀ base h₀) (F : Fr h₀ L s.heap m) {v1 v2 v3 v4 : Option Value} {st p oc : Int} {t3 t4 t5 t9 : Tok} {x kl tl rl : Addr} {kk tn rk : Nat} {kv rv : List Value} {keys : List (List Int)} (N : LawN h₀ L s.heap led v1 v2 v3 v4 (some (.ref kl)) (some (.int p t4)) (some (.int oc t5)) (some (.ref rl)) none none none none)
    (hkl : (kl, listOf kv.toArray kk) ∈ led) (htl : (tl, listOf kv.toArray tn) ∈ led) (hrl : (rl, listOf rv.toArray rk) ∈ led) (hR : RowsAre led rv (keys.map fun ks => spotsK ks p.toNat (8 * oc)))
    (hst : m (Str.ofString "strangers") = some (.int st t3)) (hmt : m (Str.ofString "told") = some (.ref tl)) (hmb : m (Str.ofString "bloom") = some (.ref x)) (hmh : m (Str.ofString "held") = some (.bytes (bytesOf (filterK (spotsAll keys p.toNat (8 * oc)) oc.toNat p)) t9))
    (hp0 : 1 ≤ p) (hp1 : p ≤ 30) (ho0 : 1 ≤ oc) (ho1 : oc ≤ 100000) (hn1 : keys.length ≤ 262)
    (cont : ∀ (m' : Str → Option Value) (h' : Heap) (tk' : Nat), Fr h₀ L h' m' → m' (Str.ofString "strangers") = some (.int st t3) → m' (Str.ofString "bloom") = some (.ref x) →
      m' (Str.ofString "held") = some (.bytes (bytesOf (filterK (spotsAll keys p.toNat (8 * oc)) oc.toNat p)) t9) →
      LawN h₀ L h' led v1 v2 v3 v4 (some (.ref kl)) (some (.int p t4)) (some (.int oc t5)) (some (.ref rl)) none none none none → LawAt w dp un L fa cd outer Q (fun _ _ => False) { s with heap := h', toks := tk' } 17) : LawAt w dp un L fa cd outer Q (fun _ _ => False) s 16 := by
  obtain ⟨B, K, T, hdp, hun⟩ := C
  obtain ⟨c1, c2, c3, c4, c5, c6, c7, c8, c9, c10, c11, c12, N, d1, d2, d3, d4, d5, d6, d7, d8, d9, d10, d11, d12, hgt⟩ := N
  replace F := knows F (kcons hst (kcons hmt (kcons hmb (kcons hmh knil))))
  have hR1 := hR.1
  have hR2 := (hR.mono fun p hp => lawC_in (L := L) (c1 := c1) (c2 := c2) (c3 := c3) (c4 := c4) (c5 := c5) (c6 := c6) (c7 := c7) (c8 := c8) (c9 := c9) (c10 := c10) (c11 := c11) (c12 := c12) hp).2
  have hR3 : ∀ x ∈ (keys.map fun ks => spotsK ks p.toNat (8 * oc)).flatten, 0 ≤ x ∧ x < 8 * oc := fun x hx => spotsAll_in (by omega) hx
  have hR4 : (keys.map fun ks => spotsK ks p.toNat (8 * oc)).flatten.length ≤ 100000 := by
    rw [spotsAll_len]
    have := Nat.mul_le_mul hn1 (show p.toNat ≤ 30 by omega)
    omega
  have eP : spotsAll keys p.toNat (8 * oc) = (keys.map fun ks => spotsK ks p.toNat (8 * oc)).flatten := rfl
  rw [eP] at F
  generalize (keys.map fun ks => spotsK ks p.toNat (8 * oc)) = rows at *
  refine lawAt_cut 1 ?_
  dsimp only [lawRec, lawEnv, lawTop, envOfC, recOf, List.take, List.drop]
  k_extra "m steps"
  · rename (_ != _) = true => hne
    rw [bne_self_eq_false] at hne
    cases hne
  · rename News _ _ _ _ => kN
    rename Fr _ _ _ _ => kF
    refine cont _ _ _ kF rfl rfl ?_ ⟨_, _, _, _, _, _, _, _, _, _, _, _, news_sub kN fun p hp => hp, by assumption, by assumption, by assumption, by assumption, by assumption, by assumption, by assumption, by assumption, by assumption, by assumption, by assumption, by assumption, hgt⟩
    rw [eP]
    rfl
theorem segI {w : World} {mean : ExcName → Option Value} {mg mb : Str → Option Value} {dp un : Nat} {L fa : Addr} {cd : Value} {outer : List Env} {A₀ : Around} {base h₀ : Heap} {Q : Flow → Shared → Prop} {s : Shared} {m : Str → Option Value} {led : List (Addr × Obj)} (C : LawCx w mean mg mb dp un outer A₀ base h₀) (F : Fr h₀ L s.heap m) {v1 v3 v4 v5 v6 v7 v8 : Option Value} {st b : Int} {t3 tb t9 : Tok} {x : Addr} {hb : Array UInt8} (N : LawN h₀ L s.heap led v1 (some (.int b tb)) v3 v4 v5 v6 v7 v8 none none none none)
    (hst : m (Str.ofString "strangers") = some (.int st t3)) (hmb : m (Str.ofString "bloom") = some (.ref x)) (hmh : m (Str.ofString "held") = some (.bytes hb t9)) (hb0 : 0 ≤ b) (hb1 : b < 1100000)
    (cont : ∀ (m' : Str → Option Value) (h' : Heap) (tk' : Nat) (lr y d2 : Addr) (lk : Nat) (b2 : Int) (k1 q1 k2 q2 : Tok), Fr h₀ L h' m' → m' (Str.ofString "strangers") = some (.int st t3) → m' (Str.ofString "bloom") = some (.ref x) →
      m' (Str.ofString "held") = some (.bytes hb t9) → m' (Str.ofString "readers") = some (.ref lr) →
      LawN h₀ L h' ((lr, listOf [Value.ref x, Value.ref y].toArray lk) :: (y, instObj 120 d2) :: (d2, bloomDict w b2 (probesK b2) k1 q1 k2 q2) :: led) v1 (some (.int b tb)) v3 v4 v5 v6 v7 v8 none none none none → LawAt w dp un L fa cd outer Q (fun _ _ => False) { s with heap := h', toks := tk' } 18) : LawAt w dp un L fa cd outer Q (fun _ _ => False) s 17 := by
  obtain ⟨B, K, T, hdp, hun⟩ := C
  obtain ⟨c1, c2, c3, c4, c5, c6, c7, c8, c9, c10, c11, c12, N, d1, d2, d3, d4, d5, d6, d7, d8, d9, d10, d11, d12, hgt⟩ := N
  replace F := knows F (kcons hst (kcons hmb (kcons hmh knil)))
  have hm0 : 0 ≤ (b.fdiv 7).fmod 90 := Int.fmod_nonneg_of_pos _ (by decide)
  have hm1 : (b.fdiv 7).fmod 90 < 90 := Int.fmod_lt_of_pos _ (by decide)
  refine lawAt_cut 1 ?_
  dsimp only [lawRec, lawEnv, lawTop, envOfC, recOf, List.take, List.drop]
  k_extra "m steps"
  rename News _ _ _ _ => kN
  rename Fr _ _ _ _ => kF
  have o1 := off_of_ne nx9
  have o2 := off_of_ne nd9
  exact cont _ _ _ _ _ _ _ _ _ _ _ _ kF rfl rfl rfl rfl ⟨_, _, _, _, _, _, _, _, _, _, _, _, lawC_pushs [_, _, _] (news_sub kN (nk (nk (nk (nr))))), by assumption, by assumption, by assumption, by assumption, by assumption, by assumption, by assumption, by assumption, by assumption, by assumption, by assumption, by assumption, off_cons (by omega) (off_cons o1 (off_cons o2 hgt))⟩
theorem item_two {prog : Program} {w0 : World} {A : Around} {E : Value → Shared → Prop} {s : Shared} {h₀ : Heap} {L l x y dx dy : Addr} {led led0 : List (Addr × Obj)} {k : Nat} {Q : Value → Shared → Prop} {value slice : PySem.Expr} {i : Int} {u : Tok} {w : World} {b1 b2 : Int} {k1 q1 k2 q2 k3 q3 k4 q4 : Tok}
    (N : News h₀ L s.heap led) (hm : (l, listOf [Value.ref x, Value.ref y].toArray k) ∈ led) (hx : (x, instObj 120 dx) ∈ led0) (hdx : (dx, bloomDict w b1 (probesK b1) k1 q1 k2 q2) ∈ led0) (hy : (y, instObj 120 dy) ∈ led0) (hdy : (dy, bloomDict w b2 (probesK b2) k3 q3 k4 q4) ∈ led0)
    (h0 : 0 ≤ i) (h1 : i < 2)
    (h : ∀ z dz b k1 q1 k2 q2, (z, instObj 120 dz) ∈ led0 → (dz, bloomDict w b (probesK b) k1 q1 k2 q2) ∈ led0 → Q (.ref z) s)
    (hs : subscripted slice false (.ref l) (.int i u) = operate [.ref l, .int i u] (getItem (.ref l) (.int i u)) := by with_unfolding_all rfl) (hg : ∀ r, letTemporaryGo value (.ref l) r = pure () := by intro _; with_unfolding_all rfl) :
    wpAny (model prog w0) A (subscriptTail value slice (.ref l) (.int i u)) Q E s := by
  rcases (by lia : i = 0 ∨ i = 1) with rfl | rfl
  · exact itemV_led N hm h0 (by decide) rfl (h _ _ _ _ _ _ _ hx hdx) hs hg
  · exact itemV_led N hm h0 (by decide) rfl (h _ _ _ _ _ _ _ hy hdy) hs hg
theorem range_any {n c : Int} (hn : 0 ≤ n) (hc : 0 < c) : ∃ q : Nat, Builtin.Range.rangeSize 0 n c = ((q : Nat) : Int) ∧ ∀ j : Nat, j < q → 0 ≤ 0 + (j : Int) * c ∧ 0 + (j : Int) * c < n := by
  unfold Builtin.Range.rangeSize
  simp only [show c > 0 from hc, if_true]
  split
  · rename_i h
    have h1 : 0 ≤ (n - 0 - 1) / c := Int.ediv_nonneg (by omega) (by omega)
    refine ⟨((n - 0 - 1) / c + 1).toNat, by omega, fun j hj => ?_⟩
    have h2 : (j : Int) ≤ (n - 0 - 1) / c := by omega
    have h3 : (j : Int) * c ≤ (n - 0 - 1) / c * c := Int.mul_le_mul_of_nonneg_right h2 (by omega)
    have h4 : (n - 0 - 1) / c * c ≤ n - 0 - 1 := Int.ediv_mul_le _ (by omega)
    have h5 : 0 ≤ (j : Int) * c := Int.mul_nonneg (by omega) (by omega)
    omega
  · exact ⟨0, rfl, fun j hj => absurd hj (Nat.not_lt_zero _)⟩
theorem range_of {h : Heap} {r : Addr} {n c : Int} {t u v : Tok} (_ : IsRange h r 0 n c t u v) (hn : 0 ≤ n) (hc : 0 < c) : ∃ q : Nat, Builtin.Range.rangeSize 0 n c = ((q : Nat) : Int) ∧ ∀ j : Nat, j < q → 0 ≤ 0 + (j : Int) * c ∧ 0 + (j : Int) * c < n := range_any hn hc
theorem mayK_told {keys : List (List Int)} {ks : List Int} {p : Nat} {wd : Int} (h : ks ∈ keys) : mayK (spotsAll keys p wd) ks p wd = true := by
  unfold mayK
  rw [List.all_eq_true]
  intro y hy
  exact decide_eq_true (List.mem_flatten.mpr ⟨_, List.mem_map.mpr ⟨ks, h, rfl⟩, hy⟩)
theorem words_16 : True := by
  (k_with "subscriptTail" => (k_here; (with_reducible show wpAny _ _ (subscriptTail _ _ (Value.ref _) (Value.int _ _)) _ _ _); k_dflt (refine item_two (by k_asm) (by k_mem) (by assumption) (by assumption) (by assumption) (by assumption) (by first | omega | exact Int.fmod_nonneg_of_pos _ (by decide)) (by first | omega | exact Int.fmod_lt_of_pos _ (by decide)) ?_; k_whole); intro z9 dz9 b9 k19 q19 k29 q29 hz9 hdz9; (try dsimp only)))
  (k_with "call ref" => (k_here; (with_reducible show wpAny _ _ (call (Value.ref 117) _) _ _ _); k_dflt (refine Pure1.call (by k_asm) (by k_asm) (by k_asm) (by k_asm) (by k_asm) (by first | exact rfl | assumption) (by ktr_room) (by ktr_units) (may_spec _ _ _ _ _ _ _ _ _ (by assumption) (by omega) (by assumption) (by omega) (by omega) (by omega) (by omega)) ?_; k_whole); intro t9 h9 tk9 F9 N9; (try dsimp only); (try k_fold)))
  trivial
noncomputable def LawJ (L : Addr) (c1 c2 c3 c4 c5 c6 c7 c8 c9 c10 c11 c12 : Obj) (led : List (Addr × Obj)) (vst vb vh vr : Value) (_ : Nat) (m : Str → Option Value) (news : List (Addr × Obj)) : Prop :=
  news = LawC L c1 c2 c3 c4 c5 c6 c7 c8 c9 c10 c11 c12 led ∧ m (Str.ofString "strangers") = some vst ∧ m (Str.ofString "bloom") = some vb ∧ m (Str.ofString "held") = some vh ∧ m (Str.ofString "readers") = some vr
theorem segJ {w : World} {mean : ExcName → Option Value} {mg mb : Str → Option Value} {dp un : Nat} {L fa : Addr} {cd : Value} {outer : List Env} {A₀ : Around} {base h₀ : Heap} {Q : Flow → Shared → Prop} {s : Shared} {m : Str → Option Value} {led : List (Addr × Obj)} (C : LawCx w mean mg mb dp un outer A₀ base h₀) (F : Fr h₀ L s.heap m) {v1 v3 v6 v7 v8 : Option Value} {st b p oc b1 b2 : Int} {t2 t3 t4 tb t9 k1 q1 k2 q2 k3 q3 k4 q4 : Tok} {x y dx dy lr kl : Addr} {lk kk : Nat} {kv : List Value} {keys : List (List Int)} (N : LawN h₀ L s.heap led v1 (some (.int b tb)) v3 (some (.int keys.length t2)) (some (.ref kl)) v6 v7 v8 none none none none)
    (hkl : (kl, listOf kv.toArray kk) ∈ led) (hK : KeysAre kv keys) (hlr : (lr, listOf [Value.ref x, Value.ref y].toArray lk) ∈ led) (hx : (x, instObj 120 dx) ∈ led) (hdx : (dx, bloomDict w b1 (probesK b1) k1 q1 k2 q2) ∈ led) (hy : (y, instObj 120 dy) ∈ led) (hdy : (dy, bloomDict w b2 (probesK b2) k3 q3 k4 q4) ∈ led)
    (hst : m (Str.ofString "strangers") = some (.int st t3)) (hmb : m (Str.ofString "bloom") = some (.ref x)) (hmh : m (Str.ofString "held") = some (.bytes (bytesOf (filterK (spotsAll keys p.toNat (8 * oc)) oc.toNat p)) t9)) (hmr : m (Str.ofString "readers") = some (.ref lr))
    (hb0 : 0 ≤ b) (hb1 : b < 1100000) (hp0 : 1 ≤ p) (hp1 : p ≤ 30) (ho0 : 1 ≤ oc) (ho1 : oc ≤ 100000) (hn0 : 3 ≤ keys.length) (hn1 : keys.length ≤ 262)
    (cont : ∀ (m' : Str → Option Value) (h' : Heap) (tk' : Nat), Fr h₀ L h' m' → m' (Str.ofString "strangers") = some (.int st t3) → m' (Str.ofString "bloom") = some (.ref x) →
      m' (Str.ofString "held") = some (.bytes (bytesOf (filterK (spotsAll keys p.toNat (8 * oc)) oc.toNat p)) t9) → m' (Str.ofString "readers") = some (.ref lr) →
      LawN h₀ L h' led v1 (some (.int b tb)) v3 (some (.int keys.length t2)) (some (.ref kl)) v6 v7 v8 none none none none → LawAt w dp un L fa cd outer Q (fun _ _ => False) { s with heap := h', toks := tk' } 19) : LawAt w dp un L fa cd outer Q (fun _ _ => False) s 18 := by
  obtain ⟨B, K, T, hdp, hun⟩ := C
  obtain ⟨c1, c2, c3, c4, c5, c6, c7, c8, c9, c10, c11, c12, N, d1, d2, d3, d4, d5, d6, d7, d8, d9, d10, d11, d12, hgt⟩ := N
  replace F := knows F (kcons hst (kcons hmb (kcons hmh (kcons hmr knil))))
  have hH : KBw.bInts (bytesOf (filterK (spotsAll keys p.toNat (8 * oc)) oc.toNat p)) = filterK (spotsAll keys p.toNat (8 * oc)) oc.toNat p := bInts_bytesOf fun n hn => by
    rcases List.mem_append.mp hn with hn | hn
    · exact litK_in _ _ n hn
    · rw [List.mem_singleton] at hn; lia
  refine lawAt_cut 1 ?_
  dsimp only [lawRec, lawEnv, lawTop, envOfC, recOf, List.take, List.drop]
  k_extra "m steps"
  all_goals
    rename Fr _ _ _ _ => F1
    rename News _ _ _ _ => N1
    rename IsRange _ _ _ _ _ _ _ _ => R1
    obtain ⟨q, hq, hqi⟩ := range_of R1 (by lia) (by decide)
    refine krs_iter (n := q) rfl R1 (small_of (by lia) (by lia) (by lia) (by lia) (by lia) (by lia)) hq F1 N1 ?_
    intro I lI
    obtain ⟨J, hJ⟩ : ∃ J, J = LawJ L c1 c2 c3 c4 c5 c6 c7 c8 c9 c10 c11 c12 led (.int st t3) (.ref x) (.bytes (bytesOf (filterK (spotsAll keys p.toNat (8 * oc)) oc.toNat p)) t9) (.ref lr) := ⟨_, rfl⟩
    refine krs_ind J ?_ ?_ _ _ _ _ (Nat.zero_add _) ?_
    · rintro j m1 news1 t1 h1 tk1 hj hJ1 F2 N2
      rw [hJ] at hJ1
      obtain ⟨rfl, mst, mbl, mhe, mre⟩ := hJ1
      have hji := hqi j hj
      replace F2 := knowsS F2 (kcons mst (kcons mbl (kcons mhe (kcons mre knil))))
      clear F1 N1 R1
      k_extra "m steps"
      · rename News _ _ _ _ => N9
        rename Fr _ _ _ _ => F9
        refine UnrEnd.intro F9 N9 _ (fun p hp => hp) (fun p hp => Nat.ne_of_lt (lI p hp)) ?_
        rw [hJ]
        exact ⟨rfl, rfl, rfl, rfl, rfl⟩
      · rename mayK _ _ _ _ = false => hf
        rename keys[_]? = some _ => hg
        rw [mayK_told (List.mem_of_getElem? hg)] at hf
        cases hf
    · intro m1 news1 h1 tk1 hJ1 F2 N2
      rw [hJ] at hJ1
      obtain ⟨rfl, mst, mbl, mhe, mre⟩ := hJ1
      replace F2 := knows F2 (kcons mst (kcons mbl (kcons mhe (kcons mre knil))))
      clear F1 N1 R1
      k_extra "m steps"
      rename News _ _ _ _ => kN
      rename Fr _ _ _ _ => kF
      exact cont _ _ _ kF rfl rfl rfl rfl ⟨_, _, _, _, _, _, _, _, _, _, _, _, news_sub kN fun p hp => hp, by assumption, by assumption, by assumption, by assumption, by assumption, by assumption, by assumption, by assumption, by assumption, by assumption, by assumption, by assumption, hgt⟩
    · rw [hJ]
      exact ⟨rfl, rfl, rfl, rfl, rfl⟩
section
variable {prog : Program} {w : World} {A : Around} {E : Value → Shared → Prop} {s : Shared} {h₀ : Heap} {L : Addr} {m : Str → Option Value} {env : Env}
theorem bytes_st {I : Addr} {b : Array UInt8} {t : Tok} : ∀ i (h h' : Heap) (o : Obj) (nw : List (Addr × Obj)), KBw.IsBytesIter h I b t i → h.get? I = some o → h'.get? I = some o → (∀ b o, h₀.get? b = some o → h'.get? b = some o) → News h₀ L h' nw → True → KBw.IsBytesIter h' I b t i := by
  rintro i h h' o nw ⟨o', q, r⟩ e e' _ _ _
  rw [e] at q
  cases q
  exact ⟨o, e', r⟩
/-- what a comprehension over octets asks for, when they are at hand -/
noncomputable def CompSrcB (prog : Program) (w : World) (A : Around) (h₀ : Heap) (L : Addr) (m : Str → Option Value) (env : Env) (elt : PySem.Expr) (x : Str) (scope : Scope) (cl : List (Str × Addr)) (Fin : Shared → List Value → List (Addr × Obj) → Prop) (xv : Value) (s₁ : Shared) : Prop :=
  ∃ b t news, xv = .bytes b t ∧ A.handled = none ∧ Fr h₀ L s₁.heap m ∧ News h₀ L s₁.heap news ∧ b.size ≤ sizeLine ∧
    ∀ g : Heap, LCg.CompRest prog w A h₀ L m env elt x scope cl { s₁ with heap := g } (fun _ => True) (fun i v => ∃ c u, b[i]? = some c ∧ v = .int (c.toNat : Int) u) (Fin { s₁ with heap := g }) b.size 0 [] news
theorem CompSrcB.intro {elt : PySem.Expr} {x : Str} {scope : Scope} {cl : List (Str × Addr)} {Fin : Shared → List Value → List (Addr × Obj) → Prop} {b : Array UInt8} {t : Tok} {news : List (Addr × Obj)} {s₁ : Shared} {ks : List Int}
    (hh : A.handled = none) (F : Fr h₀ L s₁.heap m) (N : News h₀ L s₁.heap news) (hk : KBw.bInts b = ks) (hsz : ks.length ≤ 16777216)
    (h : ∀ g : Heap, LCg.CompRest prog w A h₀ L m env elt x scope cl { s₁ with heap := g } (fun _ => True) (fun i v => ∃ k u, ks[i]? = some k ∧ v = .int k u) (Fin { s₁ with heap := g }) ks.length 0 [] news) :
    CompSrcB prog w A h₀ L m env elt x scope cl Fin (.bytes b t) s₁ := by
  subst hk
  rw [KBw.ints_length] at hsz h
  refine ⟨b, t, news, rfl, hh, F, N, by rw [PySem.sizeLine_eq]; exact hsz, fun g => ?_⟩
  have key : ∀ (k i : Nat) (ys : List Value) (nw : List (Addr × Obj)) {Fin' : List Value → List (Addr × Obj) → Prop}, LCg.CompRest prog w A h₀ L m env elt x scope cl { s₁ with heap := g } (fun _ => True) (fun i v => ∃ k u, (KBw.bInts b)[i]? = some k ∧ v = .int k u) Fin' k i ys nw →
      LCg.CompRest prog w A h₀ L m env elt x scope cl { s₁ with heap := g } (fun _ => True) (fun i v => ∃ c u, b[i]? = some c ∧ v = .int (c.toNat : Int) u) Fin' k i ys nw := by
    intro k
    induction k with
    | zero => exact fun i ys nw _ h => h
    | succ k ih =>
      intro i ys nw Fin' h
      refine LCg.CompRest.succ fun v I oI C oC D m₂ h' tk E' hv hC hx F N off ne => ?_
      obtain ⟨c, u, hc, rfl⟩ := hv
      refine wpAny_mono (h _ I oI C oC D m₂ h' tk E' ⟨_, u, KBw.ints_get hc, rfl⟩ hC hx F N off ne) (fun y s₂ q => ?_) fun _ _ e => e
      obtain ⟨h2, tk2, nw2, e, F2, N2, off2, hS, r⟩ := q
      exact ⟨h2, tk2, nw2, e, F2, N2, off2, hS, ih _ _ _ r⟩
  exact key _ _ _ _ (h g)
/-- a name gets a comprehension over octets -/
theorem assign_compB {elt iter : PySem.Expr} {x y : Str} {px py : Pos} {scope : Scope} {cl : List (Str × Addr)} {pos spos : Pos} {Q : Flow → Shared → Prop} (F₀ : Fr h₀ L s.heap m) (hLe : env.locals = L)
    (hsw : swapsWith (.ListComp elt [⟨.Name x px, iter, [], 0⟩] scope pos) (some (.Name y py)) spos.line env = pure true)
    (hclos : closureFor scope env = pure cl) (hcell : ∀ z ∈ scope.names, z.2 ≠ .cell) (hkind : scope.kind = .function)
    (hnames : ∀ z ∈ scope.names, z.2 = .local → scope.names.lookup z.1 = some .local) (hx : scope.names.lookup x = some .local)
    (hy : env.kindOf y = some .local) (hp : (env.scope.kind == .class || (env.scope.kind == .module && env.locals != env.globals)) = false)
    (h : wpAny (model prog w) A (eval iter env) (CompSrcB prog w A h₀ L m env elt x scope cl (fun s₂ => LCg.FinA h₀ L m s₂ y Q)) E s)
    (hs : ∀ x, foldedSetIterable iter env x = pure x := by intro _; rfl) :
    wpAny (model prog w) A (exec (.Assign [.Name y py] (.ListComp elt [⟨.Name x px, iter, [], 0⟩] scope pos) spos) env) Q E s := by
  clear F₀
  subst hLe
  rw [exec_Assign_Name_used _ _ _ _ hsw]
  refine wpAny_bind (wpAny_standAt (wpAny_bind ?_))
  show wpAny _ A (do let _ ← comprehension (.ListComp elt [⟨.Name x px, iter, [], 0⟩] scope pos) scope env _ (newList []) false (eval iter env) (some (assign (.Name y py) env))) _ _ s
  refine wpAny_bind (wpAny_mono (wpAny_comprehension_free (use := some (assign (.Name y py) env)) (Q := fun _ s' => Q .next s') rfl hs hclos hkind hnames
    (wpAny_mono h (fun xv s₁ h₁ => ?_) fun _ _ e => e)) (fun _ s' hq => wpAny_pure (wpAny_pure hq)) fun _ _ e => e)
  obtain ⟨b, t, news, rfl, hh, F, N, hsz, R⟩ := h₁
  refine KBw.pyIter_bytes ?_
  refine LCg.block_U (KBw.walks hh s₁.heap.objs.size b t) hsz (fun i h st => let ⟨o, e, _⟩ := st; ⟨o, e⟩) bytes_st hcell hkind hx ⟨_, Heap.get?_push_size _ rfl, rfl, rfl⟩ (fun a ha => ?_)
    (F.keeps fun _ _ e => Heap.get?_push_of_some _ e) (N.grown fun _ _ e => Heap.get?_push_of_some _ e) (Nat.ne_of_lt F.ns.lt) (next_is_new F) (fun p hp => Nat.ne_of_lt (Heap.lt_size (N p hp).1)) trivial (R _) ?_
  · rw [List.mem_singleton.mp ha]
    show s₁.heap.objs.size < (s₁.heap.push _).objs.size
    rw [Heap.size_push]
    exact Nat.lt_succ_self _
  · intro D C h' tk m' ys news' F' N' o1 hn hC₀ hD₀ hCL hDL hCD offC fin
    show wpAny _ A (assign (.Name y py) env (.ref D)) _ _ _
    refine wpAny_assign_Name (wpAny_storeName_local hy F'.ns (fun h₂ hn₂ hs₂ => ?_) hp)
    have hL₀ : h₀.get? env.locals = none := Heap.get?_none_of_le F'.above
    have F₂ : Fr h₀ env.locals h₂ (fun z => if z = y then some (.ref D) else m z) := ⟨hn₂, fun b o e => hs₂.extBut b o (fun q => by rw [q, hL₀] at e; cases e) (F'.keep b o e), F'.above⟩
    refine ⟨m', hn.sameBut hs₂ hCL, fun h'' hs'' => fin D h'' _ (F₂.change hs'' hCL hC₀) (fun p hp => ?_) o1⟩
    have z : h₂.get? p.1 = some p.2 := hs₂.extBut _ _ (N' p hp).2.1 (N' p hp).1
    refine ⟨hs''.extBut _ _ ?_ z, (N' p hp).2⟩
    rcases List.mem_cons.mp hp with rfl | hp
    · exact Ne.symm hCD
    · exact offC p hp
end
theorem words_17 : True := by
  (k_with "exec Assign cons ListComp" => (k_here; (with_reducible show wpAny _ _ (exec (Stmt.Assign [PySem.Expr.Name (PySem.Str.ofString "dim") _] _ _) _) _ _ _); k_dflt (refine assign_compB (F₀ := by k_asm) (by rfl) (by with_unfolding_all rfl) (by with_unfolding_all rfl) (by decide) (by rfl) (by decide) (by rfl) (by rfl) (by rfl) ?_)))
  trivial
theorem item_rows {prog : Program} {w : World} {A : Around} {E : Value → Shared → Prop} {s : Shared} {h₀ : Heap} {L l : Addr} {led led0 : List (Addr × Obj)} {vs : List Value} {k n : Nat} {rs : List (List Int)} {Q : Value → Shared → Prop} {value slice : PySem.Expr} {i : Int} {u : Tok}
    (N : News h₀ L s.heap led) (hm : (l, listOf vs.toArray k) ∈ led) (hR : RowsAre led0 vs rs) (hn : ∀ r ∈ rs, r.length = n) (h0 : 0 ≤ i) (h1 : i < (rs.length : Int)) (hz : rs.length ≤ 16777216)
    (h : ∀ a ws k2, (a, listOf ws.toArray k2) ∈ led0 → IntsAre ws (rs.getD i.toNat []) → (rs.getD i.toNat []).length = n → rs[i.toNat]? = some (rs.getD i.toNat []) → Q (.ref a) s)
    (hs : subscripted slice false (.ref l) (.int i u) = operate [.ref l, .int i u] (getItem (.ref l) (.int i u)) := by with_unfolding_all rfl) (hg : ∀ r, letTemporaryGo value (.ref l) r = pure () := by intro _; with_unfolding_all rfl) :
    wpAny (model prog w) A (subscriptTail value slice (.ref l) (.int i u)) Q E s := by
  have hlt : i.toNat < rs.length := by omega
  have e : rs[i.toNat]? = some (rs.getD i.toNat []) := by rw [List.getD_eq_getElem?_getD, List.getElem?_eq_getElem hlt]; rfl
  have hv := List.getElem?_eq_getElem (l := vs) (i := i.toNat) (by rw [hR.1]; exact hlt)
  obtain ⟨a, ws, k2, e1, e2, e3⟩ := hR.2 _ _ _ hv e
  exact itemV_led N hm h0 (by omega) (hv.trans (congrArg some e1)) (h a ws k2 e2 e3 (hn _ (List.mem_of_getElem? e)) e) hs hg
theorem words_18 : True := by
  (k_with "subscriptTail" => (k_here; (with_reducible show wpAny _ _ (subscriptTail _ _ (Value.ref _) (Value.int _ _)) _ _ _); k_dflt (refine item_rows (by k_asm) (by k_mem) (by assumption) (by assumption) (by omega) (by omega) (by omega) ?_; k_whole); intro a9 ws9 k9 hm9 hI9 hl9 he9; (try dsimp only)))
  trivial
theorem segK {w : World} {mean : ExcName → Option Value} {mg mb : Str → Option Value} {dp un : Nat} {L fa : Addr} {cd : Value} {outer : List Env} {A₀ : Around} {base h₀ : Heap} {Q : Flow → Shared → Prop} {s : Shared} {m : Str → Option Value} {led : List (Addr × Obj)} (C : LawCx w mean mg mb dp un outer A₀ base h₀) (F : Fr h₀ L s.heap m) {v1 v3 v5 v7 : Option Value} {st b p : Int} {n : Nat} {wd : Int} {t2 t3 t4 tb t9 : Tok} {x lr rl : Addr} {hb : Array UInt8} {rk : Nat} {rv : List Value} {rows : List (List Int)} (N : LawN h₀ L s.heap led v1 (some (.int b tb)) v3 (some (.int n t2)) v5 (some (.int p t4)) v7 (some (.ref rl)) none none none none)
    (hrl : (rl, listOf rv.toArray rk) ∈ led) (hR : RowsAre led rv rows) (hlen : ∀ r ∈ rows, r.length = p.toNat) (hrn : rows.length = n) (hin : ∀ y ∈ rows.flatten, 0 ≤ y ∧ y < wd)
    (hst : m (Str.ofString "strangers") = some (.int st t3)) (hmb : m (Str.ofString "bloom") = some (.ref x)) (hmh : m (Str.ofString "held") = some (.bytes hb t9)) (hmr : m (Str.ofString "readers") = some (.ref lr))
    (hb0 : 0 ≤ b) (hb1 : b < 1100000) (hp0 : 1 ≤ p) (hp1 : p ≤ 30) (hn0 : 3 ≤ n) (hn1 : n ≤ 262)
    (cont : ∀ (m' : Str → Option Value) (h' : Heap) (tk' : Nat) (c g : Int) (tc tg : Tok), Fr h₀ L h' m' → m' (Str.ofString "strangers") = some (.int st t3) → m' (Str.ofString "bloom") = some (.ref x) →
      m' (Str.ofString "held") = some (.bytes hb t9) → m' (Str.ofString "readers") = some (.ref lr) → m' (Str.ofString "c") = some (.int c tc) → m' (Str.ofString "gone") = some (.int g tg) →
      LawN h₀ L h' led v1 (some (.int b tb)) v3 (some (.int n t2)) v5 (some (.int p t4)) v7 (some (.ref rl)) none none none none → 0 ≤ c → c < n → g ∈ rows.flatten → 0 ≤ g → g < wd → LawAt w dp un L fa cd outer Q (fun _ _ => False) { s with heap := h', toks := tk' } 21) : LawAt w dp un L fa cd outer Q (fun _ _ => False) s 19 := by
  obtain ⟨B, K, T, hdp, hun⟩ := C
  obtain ⟨c1, c2, c3, c4, c5, c6, c7, c8, c9, c10, c11, c12, N, d1, d2, d3, d4, d5, d6, d7, d8, d9, d10, d11, d12, hgt⟩ := N
  replace F := knows F (kcons hst (kcons hmb (kcons hmh (kcons hmr knil))))
  have f0 : 0 ≤ (b.fdiv 3).fmod n := Int.fmod_nonneg_of_pos _ (by omega)
  have f1 : (b.fdiv 3).fmod n < n := Int.fmod_lt_of_pos _ (by omega)
  have f2 : 0 ≤ (b.fdiv 11).fmod p := Int.fmod_nonneg_of_pos _ (by omega)
  have f3 : (b.fdiv 11).fmod p < p := Int.fmod_lt_of_pos _ (by omega)
  refine lawAt_cut 2 ?_
  dsimp only [lawRec, lawEnv, lawTop, envOfC, recOf, List.take, List.drop]
  k_extra "m steps"
  rename News _ _ _ _ => kN
  rename Fr _ _ _ _ => kF
  rename rows[_]? = some _ => he9
  rename List.length (rows.getD _ _) = _ => hl9
  generalize hr : rows.getD ((b.fdiv 3).fmod n).toNat [] = r at *
  have hlt : ((b.fdiv 11).fmod p).toNat < r.length := by omega
  have hg1 : r.getD ((b.fdiv 11).fmod p).toNat 0 ∈ r := by
    rw [List.getD_eq_getElem?_getD, List.getElem?_eq_getElem hlt]
    exact List.getElem_mem hlt
  have hg2 : r.getD ((b.fdiv 11).fmod p).toNat 0 ∈ rows.flatten := List.mem_flatten.mpr ⟨r, List.mem_of_getElem? he9, hg1⟩
  exact cont _ _ _ _ _ _ _ kF rfl rfl rfl rfl rfl rfl ⟨_, _, _, _, _, _, _, _, _, _, _, _, news_sub kN fun p hp => hp, by assumption, by assumption, by assumption, by assumption, by assumption, by assumption, by assumption, by assumption, by assumption, by assumption, by assumption, by assumption, hgt⟩ f0 f1 hg2 (hin _ hg2).1 (hin _ hg2).2
theorem filterK_sub {P : List Int} {n : Nat} {p x : Int} (h0 : 0 ≤ x) (hn : x < 8 * (n : Int)) (hx : x ∈ P) : (filterK P n p).set (x / 8).toNat ((filterK P n p).getD (x / 8).toNat 0 - 2 ^ (x % 8).toNat) = filterK (P.filter (· ≠ x)) n p := by
  have hl := litK_length P n
  unfold filterK
  have e : (litK P n ++ [p]).getD (x / 8).toNat 0 = (litK P n).getD (x / 8).toNat 0 := by
    rw [List.getD_eq_getElem?_getD, List.getElem?_append_left (by lia), ← List.getD_eq_getElem?_getD]
  rw [e, List.set_append_left _ _ (by lia), litK_sub h0 hn hx]
theorem filterK_len (P : List Int) (n : Nat) (p : Int) : (filterK P n p).length = n + 1 := by unfold filterK; rw [List.length_append, litK_length]; rfl
theorem filterK_in {P : List Int} {n : Nat} {p : Int} (h0 : 0 ≤ p) (h1 : p < 256) : ∀ k ∈ filterK P n p, 0 ≤ k ∧ k < 256 := by
  intro k hk
  rcases List.mem_append.mp hk with hk | hk
  · exact litK_in _ _ k hk
  · rw [List.mem_singleton] at hk; lia
theorem segK2 {w : World} {mean : ExcName → Option Value} {mg mb : Str → Option Value} {dp un : Nat} {L fa : Addr} {cd : Value} {outer : List Env} {A₀ : Around} {base h₀ : Heap} {Q : Flow → Shared → Prop} {s : Shared} {m : Str → Option Value} {led : List (Addr × Obj)} (C : LawCx w mean mg mb dp un outer A₀ base h₀) (F : Fr h₀ L s.heap m) {v1 v2 v3 v4 v5 v6 v7 v8 : Option Value} {st p oc c g : Int} {t3 t9 tc tg : Tok} {x lr : Addr} {P : List Int} (N : LawN h₀ L s.heap led v1 v2 v3 v4 v5 v6 v7 v8 none none none none)
    (hst : m (Str.ofString "strangers") = some (.int st t3)) (hmb : m (Str.ofString "bloom") = some (.ref x)) (hmh : m (Str.ofString "held") = some (.bytes (bytesOf (filterK P oc.toNat p)) t9)) (hmr : m (Str.ofString "readers") = some (.ref lr)) (hmc : m (Str.ofString "c") = some (.int c tc)) (hmg : m (Str.ofString "gone") = some (.int g tg))
    (hp0 : 1 ≤ p) (hp1 : p ≤ 30) (ho0 : 1 ≤ oc) (ho1 : oc ≤ 100000) (hg : g ∈ P) (hg0 : 0 ≤ g) (hg1 : g < 8 * oc)
    (cont : ∀ (m' : Str → Option Value) (h' : Heap) (tk' : Nat) (vl : Addr) (vk : Nat) (t8 : Tok), Fr h₀ L h' m' → m' (Str.ofString "strangers") = some (.int st t3) → m' (Str.ofString "bloom") = some (.ref x) →
      m' (Str.ofString "readers") = some (.ref lr) → m' (Str.ofString "c") = some (.int c tc) →
      LawN h₀ L h' ((vl, listOf [Value.bytes (bytesOf (filterK P oc.toNat p)) t9, Value.bytes (bytesOf (filterK (P.filter (· ≠ g)) oc.toNat p)) t8].toArray vk) :: led) v1 v2 v3 v4 v5 v6 v7 v8 (some (.ref vl)) none none none → LawAt w dp un L fa cd outer Q (fun _ _ => False) { s with heap := h', toks := tk' } 24) : LawAt w dp un L fa cd outer Q (fun _ _ => False) s 21 := by
  obtain ⟨B, K, T, hdp, hun⟩ := C
  obtain ⟨c1, c2, c3, c4, c5, c6, c7, c8, c9, c10, c11, c12, N, d1, d2, d3, d4, d5, d6, d7, d8, d9, d10, d11, d12, hgt⟩ := N
  replace F := knows F (kcons hst (kcons hmb (kcons hmh (kcons hmr (kcons hmc (kcons hmg knil))))))
  have hH := bInts_bytesOf (ks := filterK P oc.toNat p) (filterK_in (by omega) (by omega))
  have hfl := filterK_len P oc.toNat p
  have hset := filterK_sub (p := p) (n := oc.toNat) hg0 (by omega) hg
  have hin2 := filterK_in (P := P.filter (· ≠ g)) (n := oc.toNat) (p := p) (by omega) (by omega)
  have hfl2 := filterK_len (P.filter (· ≠ g)) oc.toNat p
  rw [← fdiv8, ← fmod8] at hset
  generalize filterK (P.filter (· ≠ g)) oc.toNat p = ds at *
  generalize filterK P oc.toNat p = hs at *
  have q0 : 0 ≤ g.fdiv 8 := by rw [fdiv8]; omega
  have q1 : g.fdiv 8 < oc := by rw [fdiv8]; omega
  refine lawAt_cut 3 ?_
  dsimp only [lawRec, lawEnv, lawTop, envOfC, recOf, List.take, List.drop]
  k_extra "m steps"
  rename News _ _ _ _ => N1
  rename Fr _ _ _ _ => F1
  refine CompSrcB.intro rfl F1 N1 hH (by omega) fun gg => ?_
  refine comp_ind (fun j ys news => news = _ ∧ IntsAre ys (hs.take j)) ?_ ?_ _ _ _ _ (Nat.zero_add _) ⟨rfl, .nil⟩
  · rintro j v ys news I3 oI C oC D m3 h3 tk3 E3 hj ⟨k, u, hk, rfl⟩ ⟨rfl, hys⟩ hC hx F4 N4 off ne
    k_extra "m steps"
    refine LCg.CompEnd.intro (by assumption) (by assumption) _ (fun p hp => hp) off trivial ⟨rfl, ?_⟩
    rw [List.take_add_one, hk]
    exact IntsAre.append hys (.cons _ _ .nil)
  · rintro ys news ⟨rfl, hys⟩ D h5 tk5 F5 N5 off5
    rw [List.take_of_length_le (Nat.le_refl _)] at hys
    have hD := lawC_off1 off5
    obtain ⟨hc5, off5⟩ := lawC_off2 off5
    k_extra "m steps"
    rename IntsAre _ (List.set _ _ _) => hi5
    rw [hset] at hi5
    k_extra "m steps"
    rename News _ _ _ _ => kN
    rename Fr _ _ _ _ => kF
    exact cont _ _ _ _ _ _ kF rfl rfl rfl rfl ⟨_, _, _, _, _, _, _, _, _, _, _, _, lawC_pushs [_] (news_sub kN (nk (nd (nr)))), by assumption, by assumption, by assumption, by assumption, by assumption, by assumption, by assumption, by assumption, by assumption, by assumption, by assumption, by assumption, off_cons (by omega) hgt⟩
theorem add_led {prog : Program} {w : World} {A : Around} {E : Value → Shared → Prop} {s : Shared} {h₀ : Heap} {L a b : Addr} {m : Str → Option Value} {news : List (Addr × Obj)} {vs ws : List Value} {k1 k2 : Nat} {Q : Value → Shared → Prop}
    (F : Fr h₀ L s.heap m) (N : News h₀ L s.heap news) (ha : (a, listOf vs.toArray k1) ∈ news) (hb : (b, listOf ws.toArray k2) ∈ news) (hz : vs.length + ws.length ≤ 16777216)
    (h : ∀ D h', Fr h₀ L h' m → News h₀ L h' ((D, listOf (vs ++ ws).toArray 0) :: news) → (∀ p ∈ news, p.1 < D) → Q (.ref D) { s with heap := h' }) : wpAny (model prog w) A (binaryOp .Add (.ref a) (.ref b)) Q E s :=
  kmk_add_lit F N (isl N ha) (isl N hb) (by simp) h (by simp only [List.toList_toArray]; rw [PySem.sizeLine_eq]; exact hz)
theorem words_19 : True := by
  (k_with "binaryOp Add ref ref" => (k_here; (with_reducible show wpAny _ _ (binaryOp _ (Value.ref _) (Value.ref _)) _ _ _); k_dflt (refine add_led (by k_asm) (by k_asm) (by k_mem) (by k_mem) (by simp only [List.length_cons, List.length_nil]; omega) ?_; k_whole); intro D9 h9 F9 N9 l9; (try k_lt l9); (try dsimp only)))
  trivial
theorem segL {w : World} {mean : ExcName → Option Value} {mg mb : Str → Option Value} {dp un : Nat} {L fa : Addr} {cd : Value} {outer : List Env} {A₀ : Around} {base h₀ : Heap} {Q : Flow → Shared → Prop} {s : Shared} {m : Str → Option Value} {led : List (Addr × Obj)} (C : LawCx w mean mg mb dp un outer A₀ base h₀) (F : Fr h₀ L s.heap m) {v2 v3 v6 v7 v8 v9 : Option Value} {st c : Int} {l kl lr x : Addr} {k kk : Nat} {vs kv : List Value} {ns : List Int} {keys : List (List Int)} {t2 t3 tc : Tok} (N : LawN h₀ L s.heap led (some (.ref l)) v2 v3 (some (.int keys.length t2)) (some (.ref kl)) v6 v7 v8 v9 none none none)
    (hl : (l, listOf vs.toArray k) ∈ led) (hI : IntsAre vs ns) (hn : 0 < ns.length) (hlen : ns.length ≤ 40) (hr : ∀ x ∈ ns, 0 ≤ x ∧ x < 999983) (hkl : (kl, listOf kv.toArray kk) ∈ led) (hK : KeysAre kv keys)
    (hst : m (Str.ofString "strangers") = some (.int st t3)) (hmb : m (Str.ofString "bloom") = some (.ref x)) (hmr : m (Str.ofString "readers") = some (.ref lr)) (hmc : m (Str.ofString "c") = some (.int c tc))
    (hs0 : 0 ≤ st) (hs1 : st ≤ 8) (hc0 : 0 ≤ c) (hc1 : c < keys.length) (hn0 : 3 ≤ keys.length) (hn1 : keys.length ≤ 262)
    (cont : ∀ (m' : Str → Option Value) (h' : Heap) (tk' : Nat) (sl : Addr) (sk : Nat) (sv : List Value) (sks : List (List Int)), Fr h₀ L h' m' → m' (Str.ofString "bloom") = some (.ref x) → m' (Str.ofString "readers") = some (.ref lr) → m' (Str.ofString "sought") = some (.ref sl) →
      LawN h₀ L h' ((sl, listOf sv.toArray sk) :: led) (some (.ref l)) v2 v3 (some (.int keys.length t2)) (some (.ref kl)) v6 v7 v8 v9 none none none → KeysAre sv sks → sks.length ≤ 10 →
      LawAt w dp un L fa cd outer Q (fun _ _ => False) { s with heap := h', toks := tk' } 25) : LawAt w dp un L fa cd outer Q (fun _ _ => False) s 24 := by
  obtain ⟨B, K, T, hdp, hun⟩ := C
  obtain ⟨c1, c2, c3, c4, c5, c6, c7, c8, c9, c10, c11, c12, N, d1, d2, d3, d4, d5, d6, d7, d8, d9, d10, d11, d12, hgt⟩ := N
  replace F := knows F (kcons hst (kcons hmb (kcons hmr (kcons hmc knil))))
  refine lawAt_cut 1 ?_
  dsimp only [lawRec, lawEnv, lawTop, envOfC, recOf, List.take, List.drop]
  k_extra "m steps"
  rename News _ _ _ _ => N1
  rename Fr _ _ _ _ => F1
  rename IsRange _ _ _ _ _ _ _ _ => R1
  refine LCg.CompSrc.range (n := st.toNat) rfl F1 N1 R1 (small_of (by lia) (by lia) (by lia) (by lia) (by lia) (by lia)) (by rw [show (st : Int) = ((st.toNat : Nat) : Int) by lia]; exact range1 _) (by rw [PySem.sizeLine_eq]; lia) fun g => ?_
  refine comp_ind (fun j ys news => news = _ ∧ ∃ kss, KeysAre ys kss ∧ kss.length = j) ?_ ?_ _ _ _ _ (Nat.zero_add _) ⟨rfl, [], .nil, rfl⟩
  · rintro j v ys news I3 oI C oC D m3 h3 tk3 E3 hj ⟨tj, rfl⟩ ⟨rfl, kss, hys, hkl⟩ hC hx F4 N4 off ne
    have hd1 := drawI_range (i := 2 + (keys.length : Int) + (0 + (j : Int))) hn (by lia) hr
    k_extra "m steps"
    have hwi := bInts_bytesOf (ks := wordK (drawI ns (2 + (keys.length : Int) + (0 + (j : Int))))) fun k hk => wordK_in hk
    have hwl := wordK_len (drawI ns (2 + (keys.length : Int) + (0 + (j : Int))))
    exact LCg.CompEnd.intro (by assumption) (by assumption) _ (fun p hp => hp) off trivial ⟨rfl, _, hys.append (.cons _ _ _ hwi hwl .nil), by rw [List.length_append, hkl]; rfl⟩
  · rintro ys news ⟨rfl, kss, hys, hkl⟩ D h5 tk5 F5 N5 off5
    obtain ⟨hd5, hc5, off5⟩ := lawC_off3 off5
    have hyl := hys.length
    k_extra "m steps"
    rename News _ _ _ _ => kN
    rename Fr _ _ _ _ => kF
    refine cont _ _ _ _ _ _ _ kF rfl rfl rfl ⟨_, _, _, _, _, _, _, _, _, _, _, _, lawC_pushs [_] (news_sub kN (nk (nd (nd (nr))))), by assumption, by assumption, by assumption, by assumption, by assumption, by assumption, by assumption, by assumption, by assumption, by assumption, by assumption, by assumption, off_cons (by lia) hgt⟩ (.cons _ _ _ (by assumption) (by assumption) (.cons _ _ _ (by assumption) (by assumption) hys)) ?_
    simp only [List.length_cons]
    lia
section
variable {prog : Program} {w : World} {A : Around} {E : Value → Shared → Prop} {s : Shared} {env : Env} {h₀ : Heap} {x : Str} {px : PySem.Pos} {body : List Stmt} {Q : Flow → Shared → Prop}
/-- a range's loop whose name may be a cell -/
theorem range_turns {r : Addr} {b₀ : Int} {t₀ u₀ v₀ : Tok} {n : Nat} {m₀ : Str → Option Value} {news : List (Addr × Obj)} (Φ : Nat → (Str → Option Value) → List (Addr × Obj) → Prop)
    (hh : A.handled = none) (hr : IsRange s.heap r 0 b₀ 1 t₀ u₀ v₀) (hsmall : Builtin.Range.small 0 b₀ 1 = true) (hn : Builtin.Range.rangeSize 0 b₀ 1 = (n : Int)) (F : Fr h₀ env.locals s.heap m₀) (N : News h₀ env.locals s.heap news)
    (h0 : Φ 0 m₀ news)
    (turn : ∀ I : Addr, (∀ p ∈ news, p.1 < I) → ∀ i m news1 t h tk (it : Obj), i < n → Φ i m news1 → Fr h₀ env.locals h m → News h₀ env.locals h ((I, it) :: news1) → (∀ p ∈ news1, p.1 ≠ I) →
      wpAny (model prog w) A (assign (.Name x px) env (.int (i : Int) t)) (fun _ s₃ => wpAny (model prog w) A (execs body env) (UnrPost h₀ env.locals { s with heap := h, toks := tk } I it (Φ (i + 1)) Q) E s₃) E { s with heap := h, toks := tk })
    (done : ∀ m news h tk, Φ n m news → Fr h₀ env.locals h m → News h₀ env.locals h news → Q .next { s with heap := h, toks := tk }) :
    wpAny (model prog w) A (pyIter (.ref r)) (fun it s₂ => TurnsAt prog w A h₀ env (.Name x px) body Q E it s₂) E s := by
  refine wpAny_pyIter_range hr hsmall ?_
  have turn' := turn s.heap.objs.size fun p hp => Heap.lt_size (N p hp).1
  have W : Walks prog w A s.heap.objs.size [s.heap.objs.size] [s.heap.objs.size] n (fun i v => i < n ∧ ∃ t, v = .int (0 + (i : Nat) * 1) t)
      (fun i h => IsRangeIter h s.heap.objs.size (0 + (i : Nat) * 1) ((n : Int) - (i : Nat)) 1) := (Walks.range hh _ 0 1 n).bound
  have hnew := next_is_new F
  refine ⟨_, _, _, n, _, _, _, m₀, news, Φ, rfl, KTurns.ofWalks W (fun _ _ _ _ _ _ q => wpAny_pure q), ?_, ?_, ?_, (by show IsRangeIter _ _ _ _ _; rw [hn]; simpa using Heap.get?_push_size _ rfl), F.push _, (fun p hp => ⟨Heap.get?_push_of_some _ (N p hp).1, (N p hp).2⟩), h0, ?_, ?_⟩
  · intro hm
    exact absurd F.ns.lt ((List.mem_singleton.mp hm) ▸ Nat.lt_irrefl _)
  · intro b hb
    rw [List.mem_singleton.mp hb]
    exact hnew
  · intro p hp hI
    exact absurd (Heap.lt_size (N p hp).1) ((List.mem_singleton.mp hI) ▸ Nat.lt_irrefl _)
  · rintro i v m₁ news₁ hh' tk' own hin ⟨_, t, rfl⟩ hJ hoff hown hget hall hst F₁ N₁
    have hst' : hh'.get? s.heap.objs.size = some (krsIt (0 + ((i + 1 : Nat) : Int) * 1) ((n : Int) - ((i + 1 : Nat) : Int)) 1) := hst
    generalize krsIt (0 + ((i + 1 : Nat) : Int) * 1) ((n : Int) - ((i + 1 : Nat) : Int)) 1 = it at hst'
    have hmem := hall s.heap.objs.size (List.mem_singleton.mpr rfl) hnew _ hst'
    have N₂ : News h₀ env.locals hh' ((s.heap.objs.size, it) :: news₁) := fun p hp => by
      rcases List.mem_cons.mp hp with rfl | hp
      · exact N₁ _ (List.mem_append_left _ hmem)
      · exact N₁ _ (List.mem_append_right _ hp)
    have fin : ∀ s₂, UnrEnd h₀ env.locals { s with heap := hh', toks := tk' } s.heap.objs.size it (Φ (i + 1)) s₂ → LoopStepU h₀ env.locals [s.heap.objs.size] own (Φ (i + 1)) { s with heap := hh', toks := tk' } .next s₂ := by
      rintro s₂ ⟨h', tk, m', news', e, F', N', ho, r⟩
      refine ⟨rfl, h', tk, m', news', e, F', fun p hp => ?_, fun p hp hI => ho p hp (List.mem_singleton.mp hI), r⟩
      rcases List.mem_append.mp hp with hp | hp
      · have h1 : p.1 = s.heap.objs.size := List.mem_singleton.mp (hown p hp)
        have h2 : hh'.get? p.1 = some p.2 := hget p hp
        have h3 : p = (s.heap.objs.size, it) := by
          rw [h1, hst'] at h2
          exact Prod.ext h1 (Option.some.inj h2).symm
        rw [h3]
        exact N' _ (List.mem_cons_self ..)
      · exact N' _ (List.mem_cons_of_mem _ hp)
    rw [show (0 : Int) + (i : Int) * 1 = i by omega]
    refine wpAny_mono (turn' i m₁ news₁ t hh' tk' it hin hJ F₁ N₂ fun p hp e => hoff p hp (List.mem_singleton.mpr e)) (fun _ s₃ q => wpAny_mono q (fun f s₂ p => ?_) fun _ _ e => e) fun _ _ e => e
    cases f with
    | ret v => exact .ret p
    | brk => exact .brk p
    | next => exact .next (fin _ p)
    | cont => exact .cont (fin _ p)
  · rintro h' tk m' news' F' N' _ hJ
    exact done m' news' h' tk hJ F' N'
end
theorem words_20 : True := by
  (k_with "exec For Name Call cons nil" => (k_here; (with_reducible show wpAny _ _ (exec (Stmt.For (PySem.Expr.Name (PySem.Str.ofString "j") _) _ _ _ _) _) _ _ _); (rename Fr _ _ _ _ => lF'); (with_unfolding_all refine For_turns lF' ?_; k_whole)))
  (k_with "p no loop" => fail_if_success (with_reducible show wpAny _ _ (pyIter _) (fun it s₂ => TurnsAt _ _ _ _ _ _ _ _ _ it s₂) _ _))
  (k_with "p steps 1" => (k_extra "m no while"; k_extra "m no loop"; k_extra "m no comp"; k_extra "n no comp"; k_extra "p no loop"; k_extra "m one"))
  (k_with "p steps" => repeat' (k_extra "p steps 1"))
  trivial
theorem item_nat {prog : Program} {w : World} {A : Around} {E : Value → Shared → Prop} {s : Shared} {h₀ : Heap} {L l : Addr} {led : List (Addr × Obj)} {vs : List Value} {k i : Nat} {v : Value} {Q : Value → Shared → Prop} {value slice : PySem.Expr} {u : Tok}
    (N : News h₀ L s.heap led) (hm : (l, listOf vs.toArray k) ∈ led) (hv : vs[i]? = some v) (hz : i ≤ 1000) (h : Q v s)
    (hs : subscripted slice false (.ref l) (.int i u) = operate [.ref l, .int i u] (getItem (.ref l) (.int i u)) := by with_unfolding_all rfl) (hg : ∀ r, letTemporaryGo value (.ref l) r = pure () := by intro _; with_unfolding_all rfl) :
    wpAny (model prog w) A (subscriptTail value slice (.ref l) (.int i u)) Q E s :=
  itemV_led N hm (by lia) (by lia) (by rw [Int.toNat_natCast]; exact hv) h hs hg
theorem words_21 : True := by
  (k_with "subscriptTail" => (k_here; (with_reducible show wpAny _ _ (subscriptTail (PySem.Expr.Name (PySem.Str.ofString "views") _) _ (Value.ref _) (Value.int _ _)) _ _ _); k_dflt (refine item_nat (by k_asm) (by k_mem) (by assumption) (by omega) ?_; k_whole); (try dsimp only)))
  trivial
theorem dark_of {P : List Int} {n : Nat} {p x : Int} (h0 : 0 ≤ x) (hn : x < 8 * (n : Int)) : (((filterK P n p).getD (x.fdiv 8).toNat 0).fdiv (2 ^ (x.fmod 8).toNat)).fmod 2 = if x ∈ P then 1 else 0 := by
  have hl := litK_length P n
  rw [fdiv8, fmod8, ← octI_dark h0, ← litK_getD P (n := n) (o := (x / 8).toNat) (by omega), Int.fmod_eq_emod_of_nonneg _ (by decide), Int.fdiv_eq_ediv_of_nonneg _ (Int.le_of_lt (Int.pow_pos (by decide)))]
  unfold filterK
  rw [List.getD_eq_getElem?_getD, List.getElem?_append_left (by omega), ← List.getD_eq_getElem?_getD]
theorem dark_may {P ks : List Int} {p : Nat} {wd : Int} : mayK P ks p wd = decide ((((spotsK ks p wd).filter fun y => decide (y ∉ P)).length : Int) = 0) := by
  unfold mayK
  rw [Bool.eq_iff_iff, List.all_eq_true, decide_eq_true_eq]
  constructor
  · intro h
    have e : ((spotsK ks p wd).filter fun y => decide (y ∉ P)) = [] := List.filter_eq_nil_iff.mpr fun y hy => by
      have := h y hy
      simpa using this
    rw [e]; rfl
  · intro h y hy
    have e : ((spotsK ks p wd).filter fun y => decide (y ∉ P)) = [] := List.eq_nil_of_length_eq_zero (by lia)
    have := List.filter_eq_nil_iff.mp e y hy
    simpa using this
theorem lawC_ne {L I : Nat} {c1 c2 c3 c4 c5 c6 c7 c8 c9 c10 c11 c12 : Obj} {led : List (Addr × Obj)} (h : @LT.lt Nat instLTNat (L + 12) I) (h2 : ∀ p ∈ led, p.1 ≠ I) : ∀ p ∈ LawC L c1 c2 c3 c4 c5 c6 c7 c8 c9 c10 c11 c12 led, p.1 ≠ I := by
  intro p hp
  unfold LawC at hp
  iterate 12
    rcases List.mem_cons.mp hp with rfl | hp'
    · refine neN ?_
      dsimp only
      lia
    clear hp; rename _ ∈ _ => hp
  exact h2 p hp
/-- between the turns over the sought -/
noncomputable def LawM (L : Addr) (c1 c2 c3 c4 c5 c6 c7 c8 c9 c11 c12 : Obj) (led : List (Addr × Obj)) (vb vr : Value) (_ : Nat) (m : Str → Option Value) (news : List (Addr × Obj)) : Prop :=
  ∃ (c10 : Obj) (v10 : Option Value), news = LawC L c1 c2 c3 c4 c5 c6 c7 c8 c9 c10 c11 c12 led ∧ c10.data = .cell v10 ∧ m (Str.ofString "bloom") = some vb ∧ m (Str.ofString "readers") = some vr
/-- between the turns over the two views -/
noncomputable def LawM2 (L : Addr) (c1 c2 c3 c4 c5 c6 c7 c8 c9 c11 c12 : Obj) (led : List (Addr × Obj)) (vb vr vk vs : Value) (q1 q2 : Addr × Obj) (_ : Nat) (m : Str → Option Value) (news : List (Addr × Obj)) : Prop :=
  ∃ (c10 : Obj) (v10 : Option Value), news = q1 :: q2 :: LawC L c1 c2 c3 c4 c5 c6 c7 c8 c9 c10 c11 c12 led ∧ c10.data = .cell v10 ∧ m (Str.ofString "bloom") = some vb ∧ m (Str.ofString "readers") = some vr ∧ m (Str.ofString "key") = some vk ∧ m (Str.ofString "spots") = some vs
theorem segM {w : World} {mean : ExcName → Option Value} {mg mb : Str → Option Value} {dp un : Nat} {L fa : Addr} {cd : Value} {outer : List Env} {A₀ : Around} {base h₀ : Heap} {Q : Flow → Shared → Prop} {s : Shared} {m : Str → Option Value} {led : List (Addr × Obj)} (C : LawCx w mean mg mb dp un outer A₀ base h₀) (F : Fr h₀ L s.heap m) {v1 v3 v4 v5 v8 : Option Value} {b p oc b1 b2 : Int} {t4 t5 tb t8 t9 k1 q1 k2 q2 k3 q3 k4 q4 : Tok} {x y dx dy lr sl vl : Addr} {lk sk vk : Nat} {sv : List Value} {sks : List (List Int)} {P P2 : List Int} (N : LawN h₀ L s.heap led v1 (some (.int b tb)) v3 v4 v5 (some (.int p t4)) (some (.int oc t5)) v8 (some (.ref vl)) none none none)
    (hsl : (sl, listOf sv.toArray sk) ∈ led) (hS : KeysAre sv sks) (hvl : (vl, listOf [Value.bytes (bytesOf (filterK P oc.toNat p)) t9, Value.bytes (bytesOf (filterK P2 oc.toNat p)) t8].toArray vk) ∈ led)
    (hlr : (lr, listOf [Value.ref x, Value.ref y].toArray lk) ∈ led) (hx : (x, instObj 120 dx) ∈ led) (hdx : (dx, bloomDict w b1 (probesK b1) k1 q1 k2 q2) ∈ led) (hy : (y, instObj 120 dy) ∈ led) (hdy : (dy, bloomDict w b2 (probesK b2) k3 q3 k4 q4) ∈ led)
    (hmb : m (Str.ofString "bloom") = some (.ref x)) (hmr : m (Str.ofString "readers") = some (.ref lr)) (hms : m (Str.ofString "sought") = some (.ref sl))
    (hb0 : 0 ≤ b) (hb1 : b < 1100000) (hp0 : 1 ≤ p) (hp1 : p ≤ 30) (ho0 : 1 ≤ oc) (ho1 : oc ≤ 100000) (hs1 : sks.length ≤ 10)
    (cont : ∀ (m' : Str → Option Value) (h' : Heap) (tk' : Nat) (v10 : Option Value), Fr h₀ L h' m' → m' (Str.ofString "bloom") = some (.ref x) →
      LawN h₀ L h' led v1 (some (.int b tb)) v3 v4 v5 (some (.int p t4)) (some (.int oc t5)) v8 (some (.ref vl)) v10 none none → LawAt w dp un L fa cd outer Q (fun _ _ => False) { s with heap := h', toks := tk' } 26) : LawAt w dp un L fa cd outer Q (fun _ _ => False) s 25 := by
  obtain ⟨B, K, T, hdp, hun⟩ := C
  obtain ⟨c1, c2, c3, c4, c5, c6, c7, c8, c9, c10, c11, c12, N, d1, d2, d3, d4, d5, d6, d7, d8, d9, d10, d11, d12, hgt⟩ := N
  replace F := knows F (kcons hmb (kcons hmr (kcons hms knil)))
  have hsl2 := hS.length
  refine lawAt_cut 1 ?_
  dsimp only [lawRec, lawEnv, lawTop, envOfC, recOf, List.take, List.drop]
  k_extra "p steps"
  rename Fr _ _ _ _ => F1
  rename News _ _ _ _ => N1
  obtain ⟨J, hJ⟩ : ∃ J, J = LawM L c1 c2 c3 c4 c5 c6 c7 c8 c9 c11 c12 led (.ref x) (.ref lr) := ⟨_, rfl⟩
  refine iter_listUnr rfl F1 N1 (lawC_in hsl) rfl rfl ?_
  intro I lI
  have lI1 : @LT.lt Nat instLTNat (L + 12) I := lI _ (List.Mem.head _)
  have lI2 : ∀ p ∈ led, p.1 ≠ I := fun p hp => Nat.ne_of_lt (lI p (lawC_in hp))
  refine list_ind (vs := sv) J ?_ ?_ _ 0 _ _ rfl ?_ (Nat.zero_le _)
  · rintro i v m1 news1 it h1 tk1 hv hJ1 hc F2 N2
    rw [hJ] at hJ1
    obtain ⟨o10, v10, rfl, e10, mb1, mr1⟩ := hJ1
    obtain ⟨kb, kt, ks, rfl, hks1, hks2, hks3⟩ := hS.at i v hv
    replace F2 := knowsS F2 (kcons mb1 (kcons mr1 knil))
    clear F1 N1
    k_extra "p steps"
    rename IsRange _ _ _ _ _ _ _ _ => R3
    rename Fr _ _ _ _ => F3
    rename News _ _ _ _ => N3
    rename IntsAre _ (spotsK _ _ _) => hI9
    rename (∀ q : Addr × Obj, q ∈ _ → @Ne Nat _ q.1) => ne9
    have oD := off_of_ne fun q hq => ne9 q (.tail _ hq)
    have oI : @Ne Nat D9 I := ne9 _ (.head _)
    have hsp := spotsK_len ks p.toNat (8 * oc)
    have hsi : ∀ y ∈ spotsK ks p.toNat (8 * oc), 0 ≤ y ∧ y < 8 * oc := fun y hy => spotsK_in (by lia) hy
    obtain ⟨J2, hJ2⟩ : ∃ J2, J2 = LawM2 L c1 c2 c3 c4 c5 c6 c7 c8 c9 c11 c12 led (.ref x) (.ref lr) (.bytes kb kt) (.ref D9) (D9, listOf vs9.toArray k9) (I, it) := ⟨_, rfl⟩
    refine range_turns J2 rfl R3 (by decide) (n := 2) (by decide) F3 N3 ?_ ?_ ?_
    · rw [hJ2]
      exact ⟨_, _, rfl, e10, rfl, rfl, rfl, rfl⟩
    · intro I3 lI3 j m3 news3 t3 h3 tk3 it3 hj hJ3 F4 N4 nI3
      have lI4 : @LT.lt Nat instLTNat (L + 12) I3 := lI3 _ (.tail _ (.tail _ (List.Mem.head _)))
      rw [hJ2] at hJ3
      obtain ⟨p10, w10, rfl, f10, mb3, mr3, mk3, ms3⟩ := hJ3
      replace F4 := knows F4 (kcons mb3 (kcons mr3 (kcons mk3 (kcons ms3 knil))))
      have hv3 : ∃ P' tv, [Value.bytes (bytesOf (filterK P oc.toNat p)) t9, Value.bytes (bytesOf (filterK P2 oc.toNat p)) t8][j]? = some (.bytes (bytesOf (filterK P' oc.toNat p)) tv) := by
        rcases (by lia : j = 0 ∨ j = 1) with rfl | rfl
        · exact ⟨P, t9, rfl⟩
        · exact ⟨P2, t8, rfl⟩
      obtain ⟨P', tv, hv3⟩ := hv3
      have hH := bInts_bytesOf (filterK_in (P := P') (n := oc.toNat) (p := p) (by lia) (by lia))
      have hfl := filterK_len P' oc.toNat p
      clear F3 N3 R3 F2 N2
      k_extra "p steps"
      rename Fr _ _ _ _ => F5
      rename News _ _ _ _ => N5
      have hvl9 := hI9.length
      refine LCt.CompSrcT.ledger rfl F5 N5 (.tail _ (.head _)) (by rw [PySem.sizeLine_eq, List.size_toArray]; lia) fun g => ?_
      refine comp_indT (fun q ys news => news = _ ∧ ∃ ds, IntsAre ys ds ∧ ds = ((spotsK ks p.toNat (8 * oc)).take q).filter fun y => decide (y ∉ P')) ?_ ?_ _ _ _ _ (Nat.zero_add _) ⟨rfl, [], .nil, rfl⟩
      · rintro q v ys news I5 oI C oC D m5 h5 tk5 E5 hq hv5 ⟨rfl, ds, hys, hds⟩ hC hx5 F6 N6 off ne
        obtain ⟨y, ty, rfl, hy1⟩ := IntsAre.at hI9 q v (by simpa using hv5)
        have hyi := hsi y (List.mem_of_getElem? hy1)
        have hdk := dark_of (P := P') (n := oc.toNat) (p := p) hyi.1 (by lia)
        have z0 : 0 ≤ y.fdiv 8 := by rw [fdiv8]; lia
        have z1 : y.fdiv 8 < oc := by rw [fdiv8]; lia
        k_extra "p steps"
        · rename (_ = (0 : Int)) => ha
          rw [hdk] at ha
          have hyP : y ∉ P' := fun h => by rw [if_pos h] at ha; cases ha
          refine LCg.CompEnd.intro (by assumption) (by assumption) _ (fun p hp => hp) off (.inr ⟨_, .tail _ (.head _), rfl, _, rfl⟩) ⟨rfl, _, hys.append (.cons _ _ .nil), ?_⟩
          rw [List.take_add_one, hy1, List.filter_append, hds]
          congr 1
          simp [hyP]
        · rename (_ ≠ (0 : Int)) => ha
          rw [hdk] at ha
          have hyP : y ∈ P' := Decidable.byContradiction fun h => by rw [if_neg h] at ha; exact ha rfl
          refine LCg.CompEnd.intro (by assumption) (by assumption) _ (fun p hp => hp) off (.inr ⟨_, .tail _ (.head _), rfl, _, rfl⟩) ⟨rfl, _, hys, ?_⟩
          rw [List.take_add_one, hy1, List.filter_append, hds]
          simp [hyP]
      · rintro ys news ⟨rfl, ds, hys, hds⟩ Dd h7 tk7 F7 N7 off7
        have hdl : ds.length ≤ 30 := by
          rw [hds]
          refine Nat.le_trans (List.length_filter_le _ _) ?_
          rw [List.length_take]
          lia
        rw [List.take_of_length_le (by rw [List.size_toArray]; lia)] at hds
        have hmay := dark_may (P := P') (ks := ks) (p := p.toNat) (wd := 8 * oc)
        rw [← hds] at hmay
        clear hds
        k_extra "p steps"
        · rename (_ != _) = true => hne
          rw [hmay, show ((ds.length : Int) == 0) = decide ((ds.length : Int) = 0) by rw [Bool.eq_iff_iff, beq_iff_eq, decide_eq_true_eq], bne_self_eq_false] at hne
          cases hne
        · rename News _ _ _ _ => kN
          rename Fr _ _ _ _ => kF
          refine UnrEnd.intro kF kN _ (nd nr) (fun q hq => ?_) ?_
          · rcases List.mem_cons.mp hq with rfl | hq
            · exact Nat.ne_of_lt (lI3 _ (.head _))
            rcases List.mem_cons.mp hq with rfl | hq
            · exact Nat.ne_of_lt (lI3 _ (.tail _ (.head _)))
            exact lawC_ne lI4 (fun p hp => Nat.ne_of_lt (lI3 p (.tail _ (.tail _ (lawC_in hp))))) q hq
          · rw [hJ2]
            exact ⟨_, _, rfl, by assumption, rfl, rfl, rfl, rfl⟩
    · intro m3 news3 h3 tk3 hJ3 F4 N4
      rw [hJ2] at hJ3
      obtain ⟨p10, w10, rfl, f10, mb3, mr3, mk3, ms3⟩ := hJ3
      replace F4 := knows F4 (kcons mb3 (kcons mr3 knil))
      clear F3 N3 R3 F2 N2
      k_extra "p steps"
      rename News _ _ _ _ => kN
      rename Fr _ _ _ _ => kF
      refine UnrEnd.intro kF kN _ (nd nr) (lawC_ne lI1 lI2) ⟨lawC_in hsl, ?_⟩
      rw [hJ]
      exact ⟨_, _, rfl, f10, rfl, rfl⟩
  · intro m1 news1 h1 tk1 hJ1 F2 N2
    rw [hJ] at hJ1
    obtain ⟨o10, v10, rfl, e10, mb1, mr1⟩ := hJ1
    replace F2 := knows F2 (kcons mb1 (kcons mr1 knil))
    clear F1 N1
    k_extra "p steps"
    rename News _ _ _ _ => kN
    rename Fr _ _ _ _ => kF
    exact cont _ _ _ _ kF rfl ⟨_, _, _, _, _, _, _, _, _, _, _, _, news_sub kN fun p hp => hp, by assumption, by assumption, by assumption, by assumption, by assumption, by assumption, by assumption, by assumption, by assumption, by assumption, by assumption, by assumption, hgt⟩
  · rw [hJ]
    exact ⟨_, _, rfl, d10, rfl, rfl⟩
theorem rows_pick {keys : List (List Int)} {os : List Int} (f : List Int → List Int) (h : ∀ y ∈ os, 0 ≤ y ∧ y < (keys.length : Int)) : (os.map fun y => (keys.map f).getD y.toNat []) = (os.map fun y => keys.getD y.toNat []).map f := by
  rw [List.map_map]
  refine List.map_congr_left fun y hy => ?_
  have := h y hy
  have hlt : y.toNat < keys.length := by omega
  show (keys.map f).getD y.toNat [] = f (keys.getD y.toNat [])
  rw [List.getD_eq_getElem?_getD, List.getD_eq_getElem?_getD, List.getElem?_map, List.getElem?_eq_getElem hlt]
  rfl
theorem four_in {a b c d n : Int} {w : Int} (h0 : 0 ≤ w) (h1 : w < 4) (ha : 0 ≤ a ∧ a < n) (hb : 0 ≤ b ∧ b < n) (hc : 0 ≤ c ∧ c < n) (hd : 0 ≤ d ∧ d < n) : 0 ≤ [a, b, c, d].getD w.toNat 0 ∧ [a, b, c, d].getD w.toNat 0 < n := by
  rcases (by lia : w = 0 ∨ w = 1 ∨ w = 2 ∨ w = 3) with rfl | rfl | rfl | rfl
  · exact ha
  · exact hb
  · exact hc
  · exact hd
theorem rows_full {h₀ h : Heap} {L : Addr} {led led' : List (Addr × Obj)} {vs : List Value} {rs : List (List Int)} (_ : News h₀ L h led') (hs : ∀ p ∈ led, p ∈ led') (x : RowsAre led vs rs) : ∀ (i : Nat) v r, vs[i]? = some v → rs[i]? = some r → RowAt led' v r := (x.mono hs).2
theorem segN {w : World} {mean : ExcName → Option Value} {mg mb : Str → Option Value} {dp un : Nat} {L fa : Addr} {cd : Value} {outer : List Env} {A₀ : Around} {base h₀ : Heap} {Q : Flow → Shared → Prop} {s : Shared} {m : Str → Option Value} {led : List (Addr × Obj)} (C : LawCx w mean mg mb dp un outer A₀ base h₀) (F : Fr h₀ L s.heap m) {v1 v9 v10 : Option Value} {b bits p oc : Int} {tb t1 t2 t4 t5 k1 q1 k2 q2 : Tok} {x dx kl rl : Addr} {kk rk : Nat} {kv rv : List Value} {keys : List (List Int)} (N : LawN h₀ L s.heap led v1 (some (.int b tb)) (some (.int bits t1)) (some (.int keys.length t2)) (some (.ref kl)) (some (.int p t4)) (some (.int oc t5)) (some (.ref rl)) v9 v10 none none)
    (hkl : (kl, listOf kv.toArray kk) ∈ led) (hK : KeysAre kv keys) (hrl : (rl, listOf rv.toArray rk) ∈ led) (hR : RowsAre led rv (keys.map fun ks => spotsK ks p.toNat (8 * oc))) (hx : (x, instObj 120 dx) ∈ led) (hdx : (dx, bloomDict w bits (probesK bits) k1 q1 k2 q2) ∈ led)
    (hmb : m (Str.ofString "bloom") = some (.ref x)) (hpb : p = probesK bits) (hob : oc = lengthK keys.length bits)
    (hb0 : 0 ≤ b) (hb1 : b < 1100000) (hbi0 : 1 ≤ bits) (hbi1 : bits ≤ 1100) (hp0 : 1 ≤ p) (hp1 : p ≤ 30) (ho0 : 1 ≤ oc) (ho1 : oc ≤ 100000) (hn0 : 3 ≤ keys.length) (hn1 : keys.length ≤ 262)
    (cont : ∀ (m' : Str → Option Value) (h' : Heap) (tk' : Nat) (v11 v12 : Option Value), Fr h₀ L h' m' → m' (Str.ofString "bloom") = some (.ref x) →
      LawN h₀ L h' led v1 (some (.int b tb)) (some (.int bits t1)) (some (.int keys.length t2)) (some (.ref kl)) (some (.int p t4)) (some (.int oc t5)) (some (.ref rl)) v9 v10 v11 v12 → LawAt w dp un L fa cd outer Q (fun _ _ => False) { s with heap := h', toks := tk' } 27) : LawAt w dp un L fa cd outer Q (fun _ _ => False) s 26 := by
  obtain ⟨B, K, T, hdp, hun⟩ := C
  obtain ⟨c1, c2, c3, c4, c5, c6, c7, c8, c9, c10, c11, c12, N, d1, d2, d3, d4, d5, d6, d7, d8, d9, d10, d11, d12, hgt⟩ := N
  replace F := knows F (kcons hmb knil)
  refine lawAt_one (k := 26) rfl ?_
  dsimp only [lawRec, lawEnv, lawTop, envOfC, recOf, List.take, List.drop]
  refine if_G ?_
  k_extra "m steps"
  · rename (_ < (200 : Int)) => hn2
    have g0 : 1 ≤ (keys.length : Int).fdiv 2 := by rw [Int.fdiv_eq_ediv_of_nonneg _ (by decide)]; lia
    have g1 : (keys.length : Int).fdiv 2 < keys.length := by rw [Int.fdiv_eq_ediv_of_nonneg _ (by decide)]; lia
    have g2 : 0 ≤ (b.fdiv 13).fmod 4 := Int.fmod_nonneg_of_pos _ (by decide)
    have g3 : (b.fdiv 13).fmod 4 < 4 := Int.fmod_lt_of_pos _ (by decide)
    refine execs_cut 3 ?_
    dsimp only [List.take, List.drop]
    k_extra "m steps"
    rename News _ _ _ _ => N1
    rename Fr _ _ _ _ => F1
    rename IsRange _ _ _ _ _ _ _ _ => R1
    generalize (keys.length : Int).fdiv 2 = hf at *
    generalize (b.fdiv 13).fmod 4 = wy at *
    refine LCg.CompSrc.range (n := keys.length) rfl F1 N1 R1 (small_of (by lia) (by lia) (by lia) (by lia) (by lia) (by lia)) (range1 _) (by rw [PySem.sizeLine_eq]; lia) fun g => ?_
    refine comp_ind (fun j ys news => news = _ ∧ ∃ os, IntsAre ys os ∧ os.length = j ∧ ∀ y ∈ os, 0 ≤ y ∧ y < (keys.length : Int)) ?_ ?_ _ _ _ _ (Nat.zero_add _) ⟨rfl, [], .nil, rfl, fun _ h => nomatch h⟩
    · rintro j v ys news I3 oI C oC D m3 h3 tk3 E3 hj ⟨tj, rfl⟩ ⟨rfl, os, hys, hol, hoi⟩ hC hx F4 N4 off ne
      have f0 : 0 ≤ (0 + (j : Int)).fmod hf := Int.fmod_nonneg_of_pos _ (by lia)
      have f1 : (0 + (j : Int)).fmod hf < hf := Int.fmod_lt_of_pos _ (by lia)
      have f2 : 0 ≤ (0 + (j : Int)).fmod (keys.length - hf) := Int.fmod_nonneg_of_pos _ (by lia)
      have f3 : (0 + (j : Int)).fmod (keys.length - hf) < keys.length - hf := Int.fmod_lt_of_pos _ (by lia)
      have f4 : 0 ≤ ((0 + (j : Int)) * (0 + (j : Int)) + b).fmod keys.length := Int.fmod_nonneg_of_pos _ (by lia)
      have f5 : ((0 + (j : Int)) * (0 + (j : Int)) + b).fmod keys.length < keys.length := Int.fmod_lt_of_pos _ (by lia)
      k_extra "m steps"
      have hfour := four_in (n := keys.length) g2 g3 (a := keys.length - 1 - (0 + (j : Int))) (b := (0 + (j : Int)).fmod hf) (c := hf + (0 + (j : Int)).fmod (keys.length - hf)) (by lia) (by lia) (by lia) ⟨f4, f5⟩
      refine LCg.CompEnd.intro (by assumption) (by assumption) _ (nd nr) off trivial ⟨rfl, _, hys.append (.cons _ _ .nil), by rw [List.length_append, hol]; rfl, fun y hy => ?_⟩
      rcases List.mem_append.mp hy with hy | hy
      · exact hoi y hy
      · rw [List.mem_singleton.mp hy]
        exact hfour
    · rintro ys news ⟨rfl, os, hys, hol, hoi⟩ D h5 tk5 F5 N5 off5
      obtain ⟨hc5, off5⟩ := lawC_off2 off5
      have hyl := hys.length
      k_extra "m steps"
      refine exec1_G (assign_G (method_G ?_))
      k_extra "m steps"
      refine callArgs_G (K := (hd.heap_39 w.params).In) (keeps_K ?_) ?_
      · k_dflt k_is
      k_extra "m steps"
      rename News _ _ _ _ => N6
      rename Fr _ _ _ _ => F6
      refine LCg.CompSrc.ledger rfl F6 N6 (.head _) (by rw [PySem.sizeLine_eq, List.size_toArray]; lia) fun g' => ?_
      refine comp_ind (fun j zs news => news = _ ∧ KeysAre zs ((os.take j).map fun y => keys.getD y.toNat [])) ?_ ?_ _ _ _ _ (Nat.zero_add _) ⟨rfl, .nil⟩
      · rintro j v zs news I3 oI C oC D' m3 h3 tk3 E3 hj hv ⟨rfl, hzs⟩ hC hx F4 N4 off ne
        obtain ⟨y, ty, rfl, hy1⟩ := IntsAre.at hys j v (by simpa using hv)
        have hyi := hoi y (List.mem_of_getElem? hy1)
        k_extra "m steps"
        refine LCg.CompEnd.intro (by assumption) (by assumption) _ (fun p hp => hp) off (.inr ⟨_, .head _, rfl, _, rfl⟩) ⟨rfl, ?_⟩
        rw [List.take_add_one, hy1, List.map_append]
        exact hzs.append (.cons _ _ _ (by assumption) (by assumption) .nil)
      · rintro zs news ⟨rfl, hzs⟩ D2 h7 tk7 F7 N7 off7
        rw [List.take_of_length_le (by rw [List.size_toArray]; lia)] at hzs
        k_extra "m steps"
        have hpick := rows_pick (fun ks => spotsK ks p.toNat (8 * oc)) hoi
        generalize (os.map fun y => keys.getD y.toNat []) = ak at hzs hpick
        have hal : ak.length = keys.length := by
          have := congrArg List.length hpick
          rw [List.length_map, List.length_map, hol] at this
          exact this.symm
        have hlen : ∀ r ∈ (keys.map fun ks => spotsK ks p.toNat (8 * oc)), r.length = p.toNat := by
          intro r hr
          obtain ⟨ks, _, rfl⟩ := List.mem_map.mp hr
          exact spotsK_len _ _ _
        have hrl1 : (keys.map fun ks => spotsK ks p.toNat (8 * oc)).length = keys.length := List.length_map ..
        refine make_spec x dx D2 bits k1 q1 k2 q2 _ zs ak (.tail _ (.tail _ (lawC_in hx))) (.tail _ (.tail _ (lawC_in hdx))) (.head _) hzs.length hzs.make hbi0 (by lia) (by lia) _ _ _ _ _ _ _ _ _ _ _ _ _ _ _ _ B F7 K N7 T rfl (by lia) (by lia) ?_
        intro t9 h9 tk9 F9 N9
        dsimp only
        have eA : filterK (spotsAll ak (probesK bits).toNat (8 * lengthK ak.length bits)) (lengthK ak.length bits).toNat (probesK bits) = filterK (ak.map fun ks => spotsK ks p.toNat (8 * oc)).flatten oc.toNat p := by
          rw [hal, ← hob, ← hpb]
          rfl
        rw [eA]
        have hR3 : ∀ y ∈ (ak.map fun ks => spotsK ks p.toNat (8 * oc)).flatten, 0 ≤ y ∧ y < 8 * oc := fun y hy => spotsAll_in (by lia) hy
        have hR4 : (ak.map fun ks => spotsK ks p.toNat (8 * oc)).flatten.length ≤ 100000 := by
          rw [spotsAll_len, hal]
          have := Nat.mul_le_mul hn1 (show p.toNat ≤ 30 by lia)
          lia
        rw [← hpick] at hR3 hR4 ⊢
        generalize (keys.map fun ks => spotsK ks p.toNat (8 * oc)) = rows at *
        try clear F7
        try clear N7
        try clear F6
        try clear N6
        try clear F5
        try clear N5
        k_extra "m steps"
        refine wpG.of ?_
        k_extra "m steps"
        rename News _ _ _ _ => N6
        rename Fr _ _ _ _ => F6
        refine LCg.CompSrc.ledger rfl F6 N6 (.tail _ (.head _)) (by rw [PySem.sizeLine_eq, List.size_toArray]; lia) fun g' => ?_
        refine comp_ind (fun j zs news => news = _ ∧ RowsAre led zs ((os.take j).map fun y => rows.getD y.toNat [])) ?_ ?_ _ _ _ _ (Nat.zero_add _) ⟨rfl, .nil⟩
        · rintro j v zs news I3 oI C oC D' m3 h3 tk3 E3 hj hv ⟨rfl, hzs⟩ hC hx F4 N4 off ne
          obtain ⟨y, ty, rfl, hy1⟩ := IntsAre.at hys j v (by simpa using hv)
          have hyi := hoi y (List.mem_of_getElem? hy1)
          k_extra "m steps"
          refine LCg.CompEnd.intro (by assumption) (by assumption) _ (fun p hp => hp) off (.inr ⟨_, .tail _ (.head _), rfl, _, rfl⟩) ⟨rfl, ?_⟩
          rw [List.take_add_one, hy1, List.map_append]
          exact hzs.snoc ⟨_, _, _, rfl, by assumption, by assumption⟩
        · rintro zs news ⟨rfl, hzs⟩ D3 h7 tk7 F7 N7 off7
          rw [List.take_of_length_le (by rw [List.size_toArray]; lia)] at hzs
          have h1 := hzs.1
          have h2 := rows_full N7 (fun p hp => .tail _ (.tail _ (.tail _ (lawC_in hp)))) hzs
          k_extra "m steps"
          · rename (_ != _) = true => hne
            rw [bne_self_eq_false] at hne
            cases hne
          · rename News _ _ _ _ => kN
            rename Fr _ _ _ _ => kF
            exact cont _ _ _ _ _ kF rfl ⟨_, _, _, _, _, _, _, _, _, _, _, _, news_sub kN fun p hp => .tail _ (.tail _ (.tail _ (hp))), by assumption, by assumption, by assumption, by assumption, by assumption, by assumption, by assumption, by assumption, by assumption, by assumption, by assumption, by assumption, hgt⟩
  · refine wpG.of ?_
    k_extra "m steps"
    rename News _ _ _ _ => kN
    rename Fr _ _ _ _ => kF
    exact cont _ _ _ _ _ kF rfl ⟨_, _, _, _, _, _, _, _, _, _, _, _, news_sub kN fun p hp => hp, by assumption, by assumption, by assumption, by assumption, by assumption, by assumption, by assumption, by assumption, by assumption, by assumption, by assumption, by assumption, hgt⟩
theorem length0 (bits : Int) : lengthK 0 bits = 8 := by
  unfold lengthK
  rw [show ((0 : Nat) : Int) * bits = 0 by simp]
  rfl
theorem segO {w : World} {mean : ExcName → Option Value} {mg mb : Str → Option Value} {dp un : Nat} {L fa : Addr} {cd : Value} {outer : List Env} {A₀ : Around} {base h₀ : Heap} {Q : Flow → Shared → Prop} {s : Shared} {m : Str → Option Value} {led : List (Addr × Obj)} (C : LawCx w mean mg mb dp un outer A₀ base h₀) (F : Fr h₀ L s.heap m) {v1 v2 v4 v5 v7 v8 v9 v10 v11 v12 : Option Value} {bits p : Int} {t1 t4 k1 q1 k2 q2 : Tok} {x dx : Addr} (N : LawN h₀ L s.heap led v1 v2 (some (.int bits t1)) v4 v5 (some (.int p t4)) v7 v8 v9 v10 v11 v12)
    (hx : (x, instObj 120 dx) ∈ led) (hdx : (dx, bloomDict w bits (probesK bits) k1 q1 k2 q2) ∈ led) (hmb : m (Str.ofString "bloom") = some (.ref x)) (hpb : p = probesK bits) (hbi0 : 1 ≤ bits) (hbi1 : bits ≤ 1100) (hp0 : 1 ≤ p) (hp1 : p ≤ 30)
    (cont : ∀ (m' : Str → Option Value) (h' : Heap) (tk' : Nat), Fr h₀ L h' m' → Q (.ret (.bool true)) { s with heap := h', toks := tk' }) : LawAt w dp un L fa cd outer Q (fun _ _ => False) s 27 := by
  obtain ⟨B, K, T, hdp, hun⟩ := C
  obtain ⟨c1, c2, c3, c4, c5, c6, c7, c8, c9, c10, c11, c12, N, d1, d2, d3, d4, d5, d6, d7, d8, d9, d10, d11, d12, hgt⟩ := N
  replace F := knows F (kcons hmb knil)
  refine lawAt_one (k := 27) rfl ?_
  dsimp only [lawRec, lawEnv, lawTop, envOfC, recOf, List.take, List.drop]
  refine ret_G (cmp_G (method_G ?_))
  k_extra "m steps"
  refine callArgs_G (K := (hd.heap_39 w.params).In) (keeps_K ?_) ?_
  · k_dflt k_is
  k_extra "m steps"
  rename News _ _ _ _ => N1
  rename Fr _ _ _ _ => F1
  refine make_spec x dx _ bits k1 q1 k2 q2 0 [] [] (.tail _ (lawC_in hx)) (.tail _ (lawC_in hdx)) (.head _) rfl (fun i v ks h => nomatch h) hbi0 (by lia) (by decide) _ _ _ _ _ _ _ _ _ _ _ _ _ _ _ _ B F1 K N1 T rfl (by lia) (by lia) ?_
  intro t9 h9 tk9 F9 N9
  dsimp only
  have e : filterK (spotsAll [] (probesK bits).toNat (8 * lengthK ([] : List (List Int)).length bits)) (lengthK ([] : List (List Int)).length bits).toNat (probesK bits) = [0, 0, 0, 0, 0, 0, 0, 0, p] := by
    rw [show ([] : List (List Int)).length = 0 from rfl, length0, ← hpb]
    show litK [] 8 ++ [p] = _
    rw [litK_nil]
    rfl
  rw [e]
  have hin : ∀ y ∈ [0, 0, 0, 0, 0, 0, 0, 0, p], 0 ≤ y ∧ y < 256 := by
    intro y hy
    simp only [List.mem_cons, List.not_mem_nil, or_false] at hy
    lia
  clear F1 N1
  k_extra "m steps"
  rename Fr _ _ _ _ => kF
  have e2 : byteArr [0, 0, 0, 0, 0, 0, 0, 0, p] = bytesOf [0, 0, 0, 0, 0, 0, 0, 0, p] := rfl
  rw [e2, beq_self_eq_true]
  exact cont _ _ _ kF
theorem length_range {n : Nat} {bits : Int} (hb0 : 1 ≤ bits) (hb1 : bits ≤ 1100) (hn : n ≤ 262) : 1 ≤ lengthK n bits ∧ lengthK n bits ≤ 100000 := by
  have h1 : (n : Int) * bits ≤ 262 * 1100 := Int.mul_le_mul (by omega) hb1 (by omega) (by decide)
  unfold lengthK
  split <;> omega
theorem law_all {w : World} {mean : ExcName → Option Value} {mg mb : Str → Option Value} {dp un : Nat} {L fa : Addr} {cd : Value} {outer : List Env} {A₀ : Around} {base h₀ : Heap} {Q : Flow → Shared → Prop} {s : Shared} {m : Str → Option Value} (C : LawCx w mean mg mb dp un outer A₀ base h₀) (F : Fr h₀ L s.heap m)
    {l0 : Addr} {vs0 : List Value} {ns0 : List Int} (N : LawN h₀ L s.heap [] none none none none none none none none none none none none)
    (ms : m (Str.ofString "script") = some (.ref l0)) (hL0 : h₀.IsList l0 vs0.toArray) (hI0 : IntsAre vs0 ns0) (hn0 : ns0.length ≤ 63)
    (cont : ∀ (m' : Str → Option Value) (h' : Heap) (tk' : Nat), Fr h₀ L h' m' → Q (.ret (.bool true)) { s with heap := h', toks := tk' }) :
    wpG (model pr w) (lawTop dp un L fa cd outer) (execs lawRec.body (lawEnv L fa cd)) Q (fun _ _ => False) s := by
  show LawAt w dp un L fa cd outer Q (fun _ _ => False) s 0
  refine segS C F N ms hL0 hI0 hn0 ?_
  intro m1 h1 tk1 led1 l k vs ns F1 N1 hl hI hn hlen hr
  try dsimp only
  refine segB C F1 N1 hl hI hn hlen hr ?_
  intro m2 h2 tk2 b bits n st tb t1 t2 t3 F2 ms2 N2 hb0 hb1 hbi0 hbi1 hk0 hk1 hs0 hs1
  try dsimp only
  refine segC C F2 N2 hl hI hn hlen hr ms2 hb0 hb1 hk0 hk1 ?_
  intro m3 h3 tk3 kl kk kv keys F3 ms3 N3 hK hkn
  try dsimp only
  obtain rfl : n = (keys.length : Int) := by omega
  have hk2 : 3 ≤ keys.length := by omega
  have hk3 : keys.length ≤ 262 := by omega
  have hP := probesK_range bits
  have hO := length_range hbi0 hbi1 hk3
  refine segD C F3 N3 ms3 hbi0 hbi1 hk2 hk3 ?_
  intro m4 h4 tk4 t4 t5 F4 ms4 N4
  try dsimp only
  refine segE C F4 N4 (.head _) hK ms4 hP.1 hP.2 hO.1 hO.2 hk3 ?_
  intro m5 h5 tk5 led5 rl rk rv F5 ms5 N5 hR
  try dsimp only
  refine segF C F5 N5 (.tail _ (List.mem_append_right _ (.head _))) hK ms5 hbi0 hbi1 hk3 ?_
  intro m6 h6 tk6 x d tl k1 q1 k2 q2 tn F6 ms6 mt6 mb6 N6
  try dsimp only
  refine segG C F6 N6 (.head _) (.tail _ (.head _)) (.tail _ (.tail _ (.head _))) hK ms6 mt6 mb6 hbi0 hbi1 hk3 ?_
  intro m7 h7 tk7 t9 F7 ms7 mt7 mb7 mh7 N7
  try dsimp only
  have hR7 := hR.mono (led' := _ :: _ :: _ :: _ :: (led5 ++ _ :: led1)) fun p hp => .tail (x, instObj 120 d) (.tail (d, bloomDict w bits (probesK bits) k1 q1 k2 q2) (.tail (tl, listOf kv.toArray tn) (.tail (rl, listOf rv.toArray rk) (List.mem_append_left ((kl, listOf kv.toArray kk) :: led1) hp))))
  refine segH C F7 N7 (.tail _ (.tail _ (.tail _ (.tail _ (List.mem_append_right _ (.head _)))))) (.tail _ (.tail _ (.head _))) (.tail _ (.tail _ (.tail _ (.head _)))) hR7 ms7 mt7 mb7 mh7 hP.1 hP.2 hO.1 hO.2 hk3 ?_
  intro m8 h8 tk8 F8 ms8 mb8 mh8 N8
  try dsimp only
  refine segI C F8 N8 ms8 mb8 mh8 hb0 hb1 ?_
  intro m9 h9 tk9 lr y d2 lk b2 k3 q3 k4 q4 F9 ms9 mb9 mh9 mr9 N9
  try dsimp only
  refine segJ (t4 := t2) C F9 N9 (.tail _ (.tail _ (.tail _ (.tail _ (.tail _ (.tail _ (.tail _ (List.mem_append_right _ (.head _))))))))) hK (.head _) (.tail _ (.tail _ (.tail _ (.head _)))) (.tail _ (.tail _ (.tail _ (.tail _ (.head _))))) (.tail _ (.head _)) (.tail _ (.tail _ (.head _)))
    ms9 mb9 mh9 mr9 hb0 hb1 hP.1 hP.2 hO.1 hO.2 hk2 hk3 ?_
  intro m10 h10 tk10 F10 ms10 mb10 mh10 mr10 N10
  try dsimp only
  have hR10 := hR7.mono (led' := _ :: _ :: _ :: _) fun p hp => .tail (lr, listOf [Value.ref x, Value.ref y].toArray lk) (.tail (y, instObj 120 d2) (.tail (d2, bloomDict w b2 (probesK b2) k3 q3 k4 q4) hp))
  refine segK C F10 N10 (.tail _ (.tail _ (.tail _ (.tail _ (.tail _ (.tail _ (.head _))))))) hR10 (fun r hr => ?_) (List.length_map ..) (wd := 8 * lengthK keys.length bits) (fun y hy => spotsAll_in (by omega) hy) ms10 mb10 mh10 mr10 hb0 hb1 hP.1 hP.2 hk2 hk3 ?_
  · obtain ⟨ks, _, rfl⟩ := List.mem_map.mp hr
    exact spotsK_len _ _ _
  intro m11 h11 tk11 c g tc tg F11 ms11 mb11 mh11 mr11 mc11 mg11 N11 hc0 hc1 hg hg0 hg1
  try dsimp only
  refine segK2 C F11 N11 ms11 mb11 mh11 mr11 mc11 mg11 hP.1 hP.2 hO.1 hO.2 hg hg0 hg1 ?_
  intro m12 h12 tk12 vl vk t8 F12 ms12 mb12 mr12 mc12 N12
  try dsimp only
  refine segL C F12 N12 (.tail _ (.tail _ (.tail _ (.tail _ (.tail _ (.tail _ (.tail _ (.tail _ (List.mem_append_right _ (.tail _ hl)))))))))) hI hn hlen hr (.tail _ (.tail _ (.tail _ (.tail _ (.tail _ (.tail _ (.tail _ (.tail _ (List.mem_append_right _ (.head _)))))))))) hK
    ms12 mb12 mr12 mc12 hs0 hs1 hc0 hc1 hk2 hk3 ?_
  intro m13 h13 tk13 sl sk sv sks F13 mb13 mr13 msg13 N13 hS hsl
  try dsimp only
  refine segM C F13 N13 (.head _) hS (.tail _ (.head _)) (.tail _ (.tail _ (.head _))) (.tail _ (.tail _ (.tail _ (.tail _ (.tail _ (.head _)))))) (.tail _ (.tail _ (.tail _ (.tail _ (.tail _ (.tail _ (.head _))))))) (.tail _ (.tail _ (.tail _ (.head _)))) (.tail _ (.tail _ (.tail _ (.tail _ (.head _)))))
    mb13 mr13 msg13 hb0 hb1 hP.1 hP.2 hO.1 hO.2 hsl ?_
  intro m14 h14 tk14 v10 F14 mb14 N14
  try dsimp only
  refine segN C F14 N14 (.tail _ (.tail _ (.tail _ (.tail _ (.tail _ (.tail _ (.tail _ (.tail _ (.tail _ (List.mem_append_right _ (.head _))))))))))) hK (.tail _ (.tail _ (.tail _ (.tail _ (.tail _ (.tail _ (.tail _ (.tail _ (.head _))))))))) (hR10.mono fun p hp => .tail _ (.tail _ hp))
    (.tail _ (.tail _ (.tail _ (.tail _ (.tail _ (.head _)))))) (.tail _ (.tail _ (.tail _ (.tail _ (.tail _ (.tail _ (.head _))))))) mb14 rfl rfl hb0 hb1 hbi0 hbi1 hP.1 hP.2 hO.1 hO.2 hk2 hk3 ?_
  intro m15 h15 tk15 v11 v12 F15 mb15 N15
  try dsimp only
  refine segO C F15 N15 (.tail _ (.tail _ (.tail _ (.tail _ (.tail _ (.head _)))))) (.tail _ (.tail _ (.tail _ (.tail _ (.tail _ (.tail _ (.head _))))))) mb15 rfl hbi0 hbi1 hP.1 hP.2 ?_
  exact cont
theorem lawN_of {h₀ h : Heap} {L : Addr} {cm : Str → Option Value} {m1 m2 m3 m4 m5 m6 m7 m8 m9 m10 m11 m12 : Str} {cells : List (Addr × Obj)} (N : News h₀ L h cells)
    (X : CellsAre cm [(m12, L + 1 + 1 + 1 + 1 + 1 + 1 + 1 + 1 + 1 + 1 + 1 + 1), (m11, L + 1 + 1 + 1 + 1 + 1 + 1 + 1 + 1 + 1 + 1 + 1), (m10, L + 1 + 1 + 1 + 1 + 1 + 1 + 1 + 1 + 1 + 1), (m9, L + 1 + 1 + 1 + 1 + 1 + 1 + 1 + 1 + 1), (m8, L + 1 + 1 + 1 + 1 + 1 + 1 + 1 + 1), (m7, L + 1 + 1 + 1 + 1 + 1 + 1 + 1), (m6, L + 1 + 1 + 1 + 1 + 1 + 1), (m5, L + 1 + 1 + 1 + 1 + 1), (m4, L + 1 + 1 + 1 + 1), (m3, L + 1 + 1 + 1), (m2, L + 1 + 1), (m1, L + 1)] cells) : LawN h₀ L h [] (cm m1) (cm m2) (cm m3) (cm m4) (cm m5) (cm m6) (cm m7) (cm m8) (cm m9) (cm m10) (cm m11) (cm m12) := by
  refine by_cps fun P k => ?_
  obtain ⟨c12, r12, e12, d12, X⟩ := cells_step X
  obtain ⟨c11, r11, e11, d11, X⟩ := cells_step X
  obtain ⟨c10, r10, e10, d10, X⟩ := cells_step X
  obtain ⟨c9, r9, e9, d9, X⟩ := cells_step X
  obtain ⟨c8, r8, e8, d8, X⟩ := cells_step X
  obtain ⟨c7, r7, e7, d7, X⟩ := cells_step X
  obtain ⟨c6, r6, e6, d6, X⟩ := cells_step X
  obtain ⟨c5, r5, e5, d5, X⟩ := cells_step X
  obtain ⟨c4, r4, e4, d4, X⟩ := cells_step X
  obtain ⟨c3, r3, e3, d3, X⟩ := cells_step X
  obtain ⟨c2, r2, e2, d2, X⟩ := cells_step X
  obtain ⟨c1, r1, e1, d1, X⟩ := cells_step X
  cases X
  subst e1
  subst e2
  subst e3
  subst e4
  subst e5
  subst e6
  subst e7
  subst e8
  subst e9
  subst e10
  subst e11
  subst e12
  exact k ⟨c1, c2, c3, c4, c5, c6, c7, c8, c9, c10, c11, c12, N, d1, d2, d3, d4, d5, d6, d7, d8, d9, d10, d11, d12, off_nil⟩
theorem law_start : PySem.Challenge.rw_xm0845_01.Holds := by
  refine holds_law said0 fun said => ?_
  refine Mine.PySem.W.holds_open (q := hd.view_39) (loose := []) (Xt := xtH) (XP := XL hd.view_39 []) (Yf := kH.obs) (Ya := kH.val) (YP := kH.says) (N := 3564) left_top kH.of kH.keeps (fun s e => xl_of s (Bool.and_eq_true_iff.mp e).1) XL.keeps (by rfl) (by rfl) (by rfl) (fun s e => recFacts_of (Bool.and_eq_true_iff.mp e).2) (by rfl) said (by decide +kernel) ⟨rfl, rfl, rfl, rfl, rfl, by decide +kernel⟩ ⟨[.list []], by decide +kernel, by decide +kernel⟩ ?_
  intro w s₀ s₁ mg mb G Y fa o pm cd doc dV kV ho hdd hcd hD hmg hg args vals as hpre hlay hrd hwl hlo
  have KX := kIn_of Y
  refine Ground.open G ?_
  intro T B D TE TW
  clear hmg
  wrow_args hpre hlay hrd hwl hlo
  refine wpG.call ?_
  have he := Dflts.none hD rfl
  subst he
  have he := Dflts.noKw hD
  subst he
  rename_i ns0 _ _ _ _ _ _ _ lst vs0 _ hL0 _ _ _ hI0 _ hn0 _
  refine enter_cellsG (binds := [(Str.ofString "script", .ref lst)]) (by decide) ho (fd_plain hdd) (Top.nolimit T) hcd rfl (kinds_of (by kinds_ok)) (by decide) fun h₁ tk₁ cells F N0 X0 => ?_
  have K0 := below_caller (Top.heap T)
  refine wpG.mono (law_all (outer := []) ⟨K0, KX, T, by decide, by decide⟩ F (m := _) (lawN_of N0 X0) rfl hL0 hI0 (by omega) ?_) (fun _ _ q => q) (fun _ _ x => x.elim)
  intro m' h' tk' F'
  dsimp only
  refine GoodW.toG ?_
  wrow_close

end Mine
theorem PySem.Challenge.cw_xm0845_01_holds : PySem.Challenge.rw_xm0845_01.Holds := by
  exact Mine.law_start
