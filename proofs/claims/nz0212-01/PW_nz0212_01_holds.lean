import PyProof.Rows.All
import Wide.All
import OpenK.AllK
import Wide.FinOn
import KE.KTryDeep
import Lean
import PySem.Challenge.RW_nz0212_01
set_option Elab.async false
set_option rowWalk.seconds 0
set_option compiler.extract_closed false
set_option autoImplicit false
set_option maxRecDepth 100000
set_option linter.all false
set_option maxHeartbeats 0
section
namespace Nz
open PySem PySem.W PySem.Calls PyProof.Rows
open PySem.Sem (wp)
/-- the built-ins whose frames hold a bytearray -/
def loudIds : List String := PySem.Builtin.Bytes.decodersThatHold ++ ["bytearray.__contains__", "bytearray.__mod__", "bytearray.__rmod__", "_struct.pack_into.held", "bytearray.find.held"]
def calmC : Code → Bool
  | .builtin id _ => !loudIds.contains id
  | _ => true
def Calm (Γ : Ctx) : Prop := calmC Γ.code = true ∧ ∀ x ∈ Γ.below, calmC x.1 = true
theorem Calm.enter {Γ : Ctx} (h : Calm Γ) {c : Code} (hc : calmC c = true) (hd : Option Value) (p : Pos) : Calm (Γ.enter c hd p) :=
  ⟨hc, fun x hx => by
    have hx : x ∈ (Γ.code, p) :: Γ.below := hx
    rcases List.mem_cons.mp hx with rfl | hx
    · exact h.1
    · exact h.2 x hx⟩
theorem Calm.goto {Γ : Ctx} (h : Calm Γ) {c : Code} (hc : calmC c = true) : Calm (Γ.goto c) := ⟨hc, h.2⟩
def wpC {α : Type} (M : Model) (A : Around) (t : Sem α) (Q : α → Shared → Prop) (E : Value → Shared → Prop) (s : Shared) : Prop :=
  ∀ Γ p, Γ.In A → Calm Γ → wp M Γ t (fun a _ s' => Q a s') (fun e _ s' => E e s') p s
def codeC (M : Model) (A : Around) (c : Code) (R : Result → Shared → Prop) (s : Shared) : Prop :=
  ∀ Γ p, Γ.code = c → Γ.Below A → Calm Γ → wpCode M Γ R p s
section
variable {α β : Type} {M : Model} {A : Around} {E : Value → Shared → Prop} {s : Shared}
theorem wpC_any {t : Sem α} {Q : α → Shared → Prop} (h : wpAny M A t Q E s) : wpC M A t Q E s := fun Γ p hΓ _ => h Γ p hΓ
theorem codeC_any {c : Code} {R : Result → Shared → Prop} (h : codeAny M A c R s) : codeC M A c R s := fun Γ p hc hΓ _ => h Γ p hc hΓ
theorem wpC_pure {a : α} {Q : α → Shared → Prop} (h : Q a s) : wpC M A (pure a) Q E s := fun _ _ _ _ => h
theorem wpC_throw {e : Value} {Q : α → Shared → Prop} (h : E e s) : wpC M A (throw e : Sem α) Q E s := fun _ _ _ _ => h
theorem wpC_mono {t : Sem α} {Q Q' : α → Shared → Prop} {E' : Value → Shared → Prop} (h : wpC M A t Q E s)
    (hQ : ∀ a s, Q a s → Q' a s) (hE : ∀ e s, E e s → E' e s) : wpC M A t Q' E' s :=
  fun Γ p hΓ hc => Sem.wp_mono M Γ t (fun a _ s => hQ a s) (fun e _ s => hE e s) p s (h Γ p hΓ hc)
theorem wpC_bind {m : Sem α} {f : α → Sem β} {Q : β → Shared → Prop} (h : wpC M A m (fun a s' => wpC M A (f a) Q E s') E s) :
    wpC M A (m >>= f) Q E s := fun Γ p hΓ hc => by
  rw [Sem.wp_bind']
  exact Sem.wp_mono M Γ m (fun a p' s' h' => h' Γ p' hΓ hc) (fun _ _ _ h' => h') p s (h Γ p hΓ hc)
/-- a first part that the library walks -/
theorem wpC_bindA {m : Sem α} {f : α → Sem β} {Q : β → Shared → Prop} (h : wpAny M A m (fun a s' => wpC M A (f a) Q E s') E s) :
    wpC M A (m >>= f) Q E s := wpC_bind (wpC_any h)
theorem wpC_onRaise {m : Sem α} {k : Value → Sem Unit} {Q : α → Shared → Prop}
    (h : wpC M A m Q (fun e s' => wpC M A (k e) (fun _ s'' => E e s'') E s') s) : wpC M A (m.onRaise k) Q E s := fun Γ p hΓ hc => by
  rw [Sem.wp_onRaise]
  exact Sem.wp_mono M Γ m (fun _ _ _ h' => h') (fun e p' s' h' => h' Γ p' hΓ hc) p s (h Γ p hΓ hc)
theorem wpC_tryCatch {m : Sem α} {k : Value → Sem α} {Q : α → Shared → Prop} (h : wpC M A m Q (fun e s' => wpC M A (k e) Q E s') s) :
    wpC M A (tryCatch m k) Q E s := fun Γ p hΓ hc => by
  rw [Sem.wp_tryCatch']
  exact Sem.wp_mono M Γ m (fun _ _ _ h' => h') (fun e p' s' h' => h' Γ p' hΓ hc) p s (h Γ p hΓ hc)
theorem wpC_holding {vs : List Value} {m : Sem α} {Q : α → Shared → Prop} (h : wpC M A m Q E s) : wpC M A (holding vs m) Q E s :=
  fun Γ p hΓ hc => by rw [Sem.wp_holding]; exact h Γ p hΓ hc
theorem wpC_keep {vs : List Value} {m : Sem α} {Q : α → Shared → Prop} (h : wpC M A m Q E s) : wpC M A (m.keep vs) Q E s :=
  fun Γ p hΓ hc => by rw [Sem.wp_keep]; exact h Γ p hΓ hc
theorem wpC_run {c : Code} {h : Option Value} {Q : Flow → Shared → Prop}
    (hc : codeC M (A.mark h) c (fun r s' => match r with | .ok f => Q f s' | .error e => E e s') s) (hq : calmC c = true := by rfl) (hnb : h ≠ some byPass := by intro x; cases x) :
    wpC M A (run c h) Q E s :=
  fun Γ p hΓ hC => by rw [Sem.wp_run]; exact hc _ p rfl (hΓ.enter c h p hnb) (hC.enter hq h p)
theorem wpC_runValue {c : Code} {Q : Value → Shared → Prop}
    (hc : codeC M A c (fun r s' => match r with | .ok (.ret v) => Q v s' | .ok _ => False | .error e => E e s') s) (hq : calmC c = true := by rfl) :
    wpC M A (runValue c) Q E s := fun Γ p hΓ hC => by rw [Sem.wp_runValue]; exact hc _ p rfl (hΓ.enter c none p (by intro x; cases x)) (hC.enter hq none p)
theorem wpC_call {f : Value} {pos : List Value} {kw : List (Str × Value)} {Q : Value → Shared → Prop}
    (hc : codeC M A (.call f ⟨pos, kw⟩) (fun r s' => match r with | .ok (.ret v) => Q v s' | .ok _ => False | .error e => E e s') s) :
    wpC M A (call f pos kw) Q E s := wpC_runValue hc
theorem codeC_mono {c : Code} {R R' : Result → Shared → Prop} (h : codeC M A c R s) (hR : ∀ r s, R r s → R' r s) : codeC M A c R' s :=
  fun Γ p hc hΓ hC => wpCode_mono hR (h Γ p hc hΓ hC)
theorem codeC_of_tree {c : Code} {R : Result → Shared → Prop}
    (h : wpC M (A.under c) (M.den c) (fun fin s' => match fin with | .done f => R (.ok f) s' | .again c' => c'.quiet = true ∧ calmC c' = true ∧ codeC M A c' R s')
      (fun e s' => R (.error e) s') s) : codeC M A c R s := fun Γ p hc hΓ hC => by
  rw [wpCode_iff_wp, hc]
  refine Sem.wp_mono M Γ _ (fun fin p' s' h' => ?_) (fun _ _ _ h' => h') p s (h Γ p (hc ▸ hΓ.in) hC)
  cases fin with
  | done f => exact h'
  | again c' => exact ⟨h'.1, h'.2.2 (Γ.goto c') p' rfl (hΓ.goto c') (hC.goto h'.2.1)⟩
/-- the stack's look for a frame that holds this bytearray: none -/
theorem loud_ne {id t : String} (k : loudIds.contains id = false) (ht : loudIds.contains t = true) : ¬ id = t := fun e => by
  rw [e, ht] at k; cases k
theorem hold_no {id : String} (k : loudIds.contains id = false) : PySem.Builtin.Bytes.decodersThatHold.contains id = false := by
  cases h : PySem.Builtin.Bytes.decodersThatHold.contains id with
  | false => rfl
  | true =>
    have h2 := List.contains_iff_mem.mp h
    have h3 : loudIds.contains id = true := List.contains_iff_mem.mpr (List.mem_append.mpr (.inl h2))
    rw [k] at h3; cases h3
theorem wpC_exported {v : Value} {Q : Bool → Shared → Prop} (h : Q false s) : wpC M A (PySem.Builtin.Bytes.exported v) Q E s := fun Γ p _ hC => by
  unfold PySem.Builtin.Bytes.exported
  show Q (List.any ((Γ.code, p) :: Γ.below) _) s
  have key : ∀ x ∈ (Γ.code, p) :: Γ.below, calmC x.1 = true := fun x hx => by
    rcases List.mem_cons.mp hx with rfl | hx
    · exact hC.1
    · exact hC.2 x hx
  have e : ∀ b : Bool, b = false → Q b s := fun b hb => hb ▸ h
  refine e _ (List.any_eq_false.mpr fun x hx => ?_)
  have k := key x hx
  obtain ⟨c, q⟩ := x
  cases c with
  | builtin id a =>
    have k : loudIds.contains id = false := by
      cases h : loudIds.contains id with
      | false => rfl
      | true => exact Bool.noConfusion ((congrArg not h).symm.trans k)
    have h1 := loud_ne (t := "bytearray.__contains__") k (by decide +kernel)
    have h2 := loud_ne (t := "bytearray.__mod__") k (by decide +kernel)
    have h3 := loud_ne (t := "bytearray.__rmod__") k (by decide +kernel)
    have h4 := loud_ne (t := "_struct.pack_into.held") k (by decide +kernel)
    have h5 := loud_ne (t := "bytearray.find.held") k (by decide +kernel)
    have hd := hold_no k
    obtain ⟨pos, kw⟩ := a
    unfold PySem.Builtin.Bytes.exported.match_1
    dsimp only
    cases pos with
    | nil =>
      show ¬ (dite (id = "bytearray.__contains__") _ _) = true
      rw [dif_neg h1, dif_neg h2, dif_neg h3, dif_neg h4, dif_neg h5]
      exact Bool.noConfusion
    | cons x tl =>
      show ¬ (dite (id = "bytearray.__contains__") _ _) = true
      rw [dif_neg h1, dif_neg h2, dif_neg h3, dif_neg h4, dif_neg h5]
      show ¬ (Builtin.Bytes.sameRef x v && Builtin.Bytes.decodersThatHold.contains id) = true
      rw [hd, Bool.and_false]
      exact Bool.noConfusion
  | _ => exact Bool.noConfusion
end
end Nz
end
section
set_option maxRecDepth 1000000
namespace NzH
open PySem PySem.W PySem.Calls PyProof.Rows
open PySem.Sem (wp)
open Nz
def gamma0 : Ctx := ⟨.builtin "claim.caller" {}, none, none, [], none⟩
theorem calm0 : Calm gamma0 := ⟨by decide +kernel, fun _ hx => nomatch hx⟩
abbrev WalkC (q : Program) (loose : List Str) (XP : (Str → Option Value) → Heap → Prop) (YP : World → Heap → Prop) (r : RowW) (d : DefRec) (kwd : List (Str × Expr)) : Prop :=
  ∀ (w : World) (s₀ s₁ : Shared) (mg mb : Str → Option Value), Ground q loose r.records XP w s₀ mg mb s₁.heap → YP w s₁.heap → ∀ (a : Addr) (o : Obj) (pm cd doc dV kV : Value), s₁.heap.get? a = some o →
    o.data = .func { docDef d.name d.params d.body d.scope pm cd doc with defaults := dV, kwdefaults := kV } → s₁.heap.CodeRec cd d.name → Dflts mg s₁.heap d.params kwd dV kV → mg d.name = some (.ref a) → s₁.gens = #[] →
    ∀ (args : List WData) (vals : List Value) (as : List Addr), r.claim.pre args = true → WData.layableAll args = true → ReadsAllW r.records (classAt s₀.heap) s₁.heap vals args as → WellAll w.params s₁.heap vals args → (∀ a ∈ as, (a == sysModules) = false) →
      codeC (model r.prog w) callerA (.call (.ref a) ⟨vals, []⟩) (fun res s' => GoodW r.claim (classAt s₀.heap) (ExcName.means s₀.heap) args s₁ res s') s₁
/-- a thread at the caller's own place: what holds for calm stacks is enough -/
theorem ends_calm {prog : Program} {w : World} {t : Sem Fin} {s : Shared} {R : Result → Shared → Prop} (hz : s.asleep)
    (h : wpC (model prog w) callerA t (fun fin s' => ∃ f, fin = .done f ∧ R (.ok f) s' ∧ AllBare s'.gens) (fun e s' => R (.error e) s' ∧ AllBare s'.gens) s) :
    ∃ n r s' s'', schedN (denote table) prog w n (.single s ⟨t, .builtin "claim.caller" {}, default, []⟩) = .halted (outcomeOf r) s'' ∧
      PySem.runN (denote table) prog w n s ⟨t, .builtin "claim.caller" {}, default, []⟩ = .halted (outcomeOf r) s'' ∧ s''.forget = s'.forget ∧ R r s' :=
  wp_halts_full (M := model prog w) (R := R) hz
    (Sem.wp_mono _ _ _ (fun fin p' s' ⟨f, e, a, b⟩ => by subst e; exact ⟨a, leftWithCleanup_false_of_bare b⟩) (fun e p' s' ⟨a, b⟩ => ⟨a, leftWithCleanup_false_of_bare b⟩) _ _
      (h gamma0 default caller_in calm0))
noncomputable section
/-- the row's own program, and its statements by their places -/
noncomputable abbrev pw : Program := PySem.Challenge.rw_nz0212_01.row.toRowW.1
noncomputable def topS (i : Nat) : Stmt := pw.main.body.getD i (.Pass default)
noncomputable def inS (i j : Nat) : Stmt := match topS i with
  | .ClassDef _ _ _ b _ _ _ _ _ _ _ => b.getD j (.Pass default)
  | s => s
/-- the function that a def leaves -/
noncomputable def fnO (st : Stmt) (q : Str) (code : Addr) (md dfl : Value) : Obj := match st with
  | .FunctionDef n ps b _ _ _ sc _ _ _ => ⟨.type "function", none, .func ⟨n, q, ps, .stmts b, sc, 3, [], dfl, .none, .none, md, none, .ref code, .none, 0⟩, #[]⟩
  | _ => default
/-- what the top leaves in the heap -/
noncomputable def hd.heap_39 : Params → Frag := fun P => (nat_lit 2, ⟨.none, none, .dict #[] 0, #[]⟩) ::
  (nat_lit 3, ⟨.type "dict", none, .dict #[⟨PyData.keyHash P "__name__", .str "__name__" 165, .str "law_nz0212_01" 454⟩, ⟨PyData.keyHash P "__doc__", .str "__doc__" 166, .none⟩, ⟨PyData.keyHash P "__package__", .str "__package__" 167, .none⟩, ⟨PyData.keyHash P "__loader__", .str "__loader__" 168, .builtin "__main__.__loader__#opaque"⟩, ⟨PyData.keyHash P "__spec__", .str "__spec__" 169, .none⟩, ⟨PyData.keyHash P "__annotations__", .str "__annotations__" 170, .ref 6⟩, ⟨PyData.keyHash P "__builtins__", .str "__builtins__" 171, .ref 4⟩, ⟨PyData.keyHash P "__file__", .str "__file__" 173, .str "/claim/cut.py" 172⟩, ⟨PyData.keyHash P "__cached__", .str "__cached__" 174, .none⟩, ⟨PyData.keyHash P "BoardError", .str "BoardError" 216, .ref 32⟩, ⟨PyData.keyHash P "BadArgument", .str "BadArgument" 232, .ref 45⟩, ⟨PyData.keyHash P "BadDisk", .str "BadDisk" 248, .ref 57⟩, ⟨PyData.keyHash P "MAGIC", .str "MAGIC" 252, .int 270544960 251⟩, ⟨PyData.keyHash P "FIRST_LOG", .str "FIRST_LOG" 254, .int 2 253⟩, ⟨PyData.keyHash P "DIRECT", .str "DIRECT" 256, .int 12 255⟩, ⟨PyData.keyHash P "HEAD", .str "HEAD" 258, .int 12 257⟩, ⟨PyData.keyHash P "PIECE", .str "PIECE" 260, .int 16 259⟩, ⟨PyData.keyHash P "SUPER_WORDS", .str "SUPER_WORDS" 262, .int 9 261⟩, ⟨PyData.keyHash P "half_at", .str "half_at" 270, .ref 66⟩, ⟨PyData.keyHash P "word_at", .str "word_at" 278, .ref 73⟩, ⟨PyData.keyHash P "put_half", .str "put_half" 287, .ref 80⟩, ⟨PyData.keyHash P "put_word", .str "put_word" 296, .ref 87⟩, ⟨PyData.keyHash P "rounded_up", .str "rounded_up" 304, .ref 94⟩, ⟨PyData.keyHash P "Super", .str "Super" 397, .ref 154⟩, ⟨PyData.keyHash P "read_super", .str "read_super" 403, .ref 163⟩, ⟨PyData.keyHash P "NAME", .str "NAME" 407, .int 14 406⟩, ⟨PyData.keyHash P "ROW", .str "ROW" 409, .int 16 408⟩, ⟨PyData.keyHash P "SLASH", .str "SLASH" 411, .int 47 410⟩, ⟨PyData.keyHash P "octets_of", .str "octets_of" 418, .ref 170⟩, ⟨PyData.keyHash P "cut_name", .str "cut_name" 425, .ref 177⟩, ⟨PyData.keyHash P "parts_of", .str "parts_of" 435, .ref 184⟩, ⟨PyData.keyHash P "row_for", .str "row_for" 444, .ref 191⟩, ⟨PyData.keyHash P "name_in", .str "name_in" 453, .ref 198⟩, ⟨PyData.keyHash P "_law_pool", .str "_law_pool" 464, .ref 205⟩, ⟨PyData.keyHash P "_law_take", .str "_law_take" 473, .ref 212⟩, ⟨PyData.keyHash P "_law_path", .str "_law_path" 479, .ref 217⟩, ⟨PyData.keyHash P "_law_parts", .str "_law_parts" 490, .ref 224⟩, ⟨PyData.keyHash P "_law_path_right", .str "_law_path_right" 503, .ref 231⟩, ⟨PyData.keyHash P "_law_words_right", .str "_law_words_right" 514, .ref 238⟩, ⟨PyData.keyHash P "_law_plan", .str "_law_plan" 528, .ref 245⟩, ⟨PyData.keyHash P "_law_told", .str "_law_told" 539, .ref 252⟩, ⟨PyData.keyHash P "_law_read", .str "_law_read" 546, .ref 259⟩, ⟨PyData.keyHash P "_law_places_right", .str "_law_places_right" 552, .ref 264⟩, ⟨PyData.keyHash P "_law_super_right", .str "_law_super_right" 558, .ref 269⟩, ⟨PyData.keyHash P "law", .str "law" 567, .ref 276⟩] 45, #[]⟩) ::
  (nat_lit 15, ⟨.type "tuple", none, .seq #[.type "ValueError"] 0, #[]⟩) ::
  (nat_lit 22, ⟨.type "tuple", none, .seq #[.str "" 201] 0, #[]⟩) ::
  (nat_lit 23, ⟨.type "tuple", none, .seq #[] 0, #[]⟩) ::
  (nat_lit 25, ⟨.type "tuple", none, .seq #[.str "self" 205, .str "reason" 206] 0, #[]⟩) ::
  (nat_lit 26, ⟨.type "tuple", none, .seq #[] 0, #[]⟩) ::
  (nat_lit 28, ⟨.type "code", none, .fields #[.str "__init__" 202, .str "BoardError.__init__" 203, .str "/claim/cut.py" 204, .int 4 0, .int 2 0, .int 0 0, .int 0 0, .int 3 0, .ref 23, .bool true, .int 181 0, .ref 24, .none, .ref 25, .ref 26, .ref 27, .int 207 0, .int 4 0, .str "/claim/cut.py" 208], #[]⟩) ::
  (nat_lit 29, fnO (inS 1 0) "BoardError.__init__" 28 (.str "pipeboard.errors" 187) (.ref 22)) ::
  (nat_lit 30, ⟨.type "tuple", none, .seq #[.str "reason" 210] 0, #[]⟩) ::
  (nat_lit 31, ⟨.type "dict", none, .dict #[⟨PyData.keyHash P "__module__", .str "__module__" 196, .str "pipeboard.errors" 187⟩, ⟨PyData.keyHash P "__firstlineno__", .str "__firstlineno__" 200, .int 2 199⟩, ⟨PyData.keyHash P "__init__", .str "__init__" 209, .ref 29⟩, ⟨PyData.keyHash P "__static_attributes__", .str "__static_attributes__" 211, .ref 30⟩, ⟨PyData.keyHash P "__weakref__", .str "__weakref__" 213, .ref 33⟩, ⟨PyData.keyHash P "__doc__", .str "__doc__" 214, .none⟩] 3, #[]⟩) ::
  (nat_lit 32, ⟨.type "type", none, .cls ⟨"BoardError", [.type "ValueError"], [.ref 32, .type "ValueError", .type "Exception", .type "BaseException", .type "object"], 31, "BoardError", true, [], [.ref 45, .ref 57], false, none, false⟩, #[some (.ref 15), none, some (.str "BoardError" 189), some (.str "BoardError" 197), some (.builtin "ValueError.__new__"), some (.bool true)]⟩) ::
  (nat_lit 33, ⟨.type "getset_descriptor", none, .fields #[.str "__weakref__" 212, .ref 32, .builtin "ExceptionGroup.__weakref__", .none], #[]⟩) ::
  (nat_lit 36, ⟨.type "tuple", none, .seq #[.ref 32] 0, #[]⟩) ::
  (nat_lit 43, ⟨.type "tuple", none, .seq #[] 0, #[]⟩) ::
  (nat_lit 44, ⟨.type "dict", none, .dict #[⟨PyData.keyHash P "__module__", .str "__module__" 224, .str "pipeboard.errors" 187⟩, ⟨PyData.keyHash P "__firstlineno__", .str "__firstlineno__" 228, .int 7 227⟩, ⟨PyData.keyHash P "__static_attributes__", .str "__static_attributes__" 229, .ref 43⟩, ⟨PyData.keyHash P "__doc__", .str "__doc__" 230, .none⟩] 2, #[]⟩) ::
  (nat_lit 45, ⟨.type "type", none, .cls ⟨"BadArgument", [.ref 32], [.ref 45, .ref 32, .type "ValueError", .type "Exception", .type "BaseException", .type "object"], 44, "BadArgument", true, [], [], false, none, false⟩, #[some (.ref 36), none, some (.str "BadArgument" 217), some (.str "BadArgument" 225), some (.builtin "ValueError.__new__"), some (.bool true)]⟩) ::
  (nat_lit 48, ⟨.type "tuple", none, .seq #[.ref 32] 0, #[]⟩) ::
  (nat_lit 55, ⟨.type "tuple", none, .seq #[] 0, #[]⟩) ::
  (nat_lit 56, ⟨.type "dict", none, .dict #[⟨PyData.keyHash P "__module__", .str "__module__" 240, .str "pipeboard.errors" 187⟩, ⟨PyData.keyHash P "__firstlineno__", .str "__firstlineno__" 244, .int 9 243⟩, ⟨PyData.keyHash P "__static_attributes__", .str "__static_attributes__" 245, .ref 55⟩, ⟨PyData.keyHash P "__doc__", .str "__doc__" 246, .none⟩] 2, #[]⟩) ::
  (nat_lit 57, ⟨.type "type", none, .cls ⟨"BadDisk", [.ref 32], [.ref 57, .ref 32, .type "ValueError", .type "Exception", .type "BaseException", .type "object"], 56, "BadDisk", true, [], [], false, none, false⟩, #[some (.ref 48), none, some (.str "BadDisk" 233), some (.str "BadDisk" 241), some (.builtin "ValueError.__new__"), some (.bool true)]⟩) ::
  (nat_lit 60, ⟨.type "tuple", none, .seq #[] 0, #[]⟩) ::
  (nat_lit 62, ⟨.type "tuple", none, .seq #[.str "octets" 266, .str "at" 267] 0, #[]⟩) ::
  (nat_lit 63, ⟨.type "tuple", none, .seq #[] 0, #[]⟩) ::
  (nat_lit 65, ⟨.type "code", none, .fields #[.str "half_at" 263, .str "half_at" 264, .str "/claim/cut.py" 265, .int 18 0, .int 2 0, .int 0 0, .int 0 0, .int 3 0, .ref 60, .bool true, .int 181 0, .ref 61, .none, .ref 62, .ref 63, .ref 64, .int 268 0, .int 18 0, .str "/claim/cut.py" 269], #[]⟩) ::
  (nat_lit 66, fnO (topS 11) "half_at" 65 (.str "pipeboard.inodes" 249) .none) ::
  (nat_lit 67, ⟨.type "tuple", none, .seq #[] 0, #[]⟩) ::
  (nat_lit 69, ⟨.type "tuple", none, .seq #[.str "octets" 274, .str "at" 275] 0, #[]⟩) ::
  (nat_lit 70, ⟨.type "tuple", none, .seq #[] 0, #[]⟩) ::
  (nat_lit 72, ⟨.type "code", none, .fields #[.str "word_at" 271, .str "word_at" 272, .str "/claim/cut.py" 273, .int 20 0, .int 2 0, .int 0 0, .int 0 0, .int 3 0, .ref 67, .bool true, .int 181 0, .ref 68, .none, .ref 69, .ref 70, .ref 71, .int 276 0, .int 20 0, .str "/claim/cut.py" 277], #[]⟩) ::
  (nat_lit 73, fnO (topS 12) "word_at" 72 (.str "pipeboard.inodes" 249) .none) ::
  (nat_lit 74, ⟨.type "tuple", none, .seq #[] 0, #[]⟩) ::
  (nat_lit 76, ⟨.type "tuple", none, .seq #[.str "octets" 282, .str "at" 283, .str "value" 284] 0, #[]⟩) ::
  (nat_lit 77, ⟨.type "tuple", none, .seq #[] 0, #[]⟩) ::
  (nat_lit 79, ⟨.type "code", none, .fields #[.str "put_half" 279, .str "put_half" 280, .str "/claim/cut.py" 281, .int 22 0, .int 3 0, .int 0 0, .int 0 0, .int 3 0, .ref 74, .bool true, .int 181 0, .ref 75, .none, .ref 76, .ref 77, .ref 78, .int 285 0, .int 22 0, .str "/claim/cut.py" 286], #[]⟩) ::
  (nat_lit 80, fnO (topS 13) "put_half" 79 (.str "pipeboard.inodes" 249) .none) ::
  (nat_lit 81, ⟨.type "tuple", none, .seq #[] 0, #[]⟩) ::
  (nat_lit 83, ⟨.type "tuple", none, .seq #[.str "octets" 291, .str "at" 292, .str "value" 293] 0, #[]⟩) ::
  (nat_lit 84, ⟨.type "tuple", none, .seq #[] 0, #[]⟩) ::
  (nat_lit 86, ⟨.type "code", none, .fields #[.str "put_word" 288, .str "put_word" 289, .str "/claim/cut.py" 290, .int 25 0, .int 3 0, .int 0 0, .int 0 0, .int 3 0, .ref 81, .bool true, .int 181 0, .ref 82, .none, .ref 83, .ref 84, .ref 85, .int 294 0, .int 25 0, .str "/claim/cut.py" 295], #[]⟩) ::
  (nat_lit 87, fnO (topS 14) "put_word" 86 (.str "pipeboard.inodes" 249) .none) ::
  (nat_lit 88, ⟨.type "tuple", none, .seq #[] 0, #[]⟩) ::
  (nat_lit 90, ⟨.type "tuple", none, .seq #[.str "count" 300, .str "size" 301] 0, #[]⟩) ::
  (nat_lit 91, ⟨.type "tuple", none, .seq #[] 0, #[]⟩) ::
  (nat_lit 93, ⟨.type "code", none, .fields #[.str "rounded_up" 297, .str "rounded_up" 298, .str "/claim/cut.py" 299, .int 28 0, .int 2 0, .int 0 0, .int 0 0, .int 3 0, .ref 88, .bool true, .int 181 0, .ref 89, .none, .ref 90, .ref 91, .ref 92, .int 302 0, .int 28 0, .str "/claim/cut.py" 303], #[]⟩) ::
  (nat_lit 94, fnO (topS 15) "rounded_up" 93 (.str "pipeboard.inodes" 249) .none) ::
  (nat_lit 102, ⟨.type "tuple", none, .seq #[.int 12 255] 0, #[]⟩) ::
  (nat_lit 103, ⟨.type "tuple", none, .seq #[] 0, #[]⟩) ::
  (nat_lit 105, ⟨.type "tuple", none, .seq #[.str "self" 320, .str "block" 321, .str "blocks" 322, .str "inodes" 323, .str "log" 324, .str "direct" 325] 0, #[]⟩) ::
  (nat_lit 106, ⟨.type "tuple", none, .seq #[] 0, #[]⟩) ::
  (nat_lit 108, ⟨.type "code", none, .fields #[.str "__init__" 317, .str "Super.__init__" 318, .str "/claim/cut.py" 319, .int 32 0, .int 6 0, .int 0 0, .int 0 0, .int 3 0, .ref 103, .bool true, .int 181 0, .ref 104, .none, .ref 105, .ref 106, .ref 107, .int 326 0, .int 32 0, .str "/claim/cut.py" 327], #[]⟩) ::
  (nat_lit 109, fnO (inS 16 0) "Super.__init__" 108 (.str "pipeboard.inodes" 249) (.ref 102)) ::
  (nat_lit 110, ⟨.type "tuple", none, .seq #[] 0, #[]⟩) ::
  (nat_lit 112, ⟨.type "tuple", none, .seq #[.str "self" 332] 0, #[]⟩) ::
  (nat_lit 113, ⟨.type "tuple", none, .seq #[] 0, #[]⟩) ::
  (nat_lit 115, ⟨.type "code", none, .fields #[.str "most_blocks" 329, .str "Super.most_blocks" 330, .str "/claim/cut.py" 331, .int 54 0, .int 1 0, .int 0 0, .int 0 0, .int 3 0, .ref 110, .bool true, .int 181 0, .ref 111, .none, .ref 112, .ref 113, .ref 114, .int 333 0, .int 54 0, .str "/claim/cut.py" 334], #[]⟩) ::
  (nat_lit 116, fnO (inS 16 1) "Super.most_blocks" 115 (.str "pipeboard.inodes" 249) .none) ::
  (nat_lit 117, ⟨.type "tuple", none, .seq #[] 0, #[]⟩) ::
  (nat_lit 119, ⟨.type "tuple", none, .seq #[.str "self" 339] 0, #[]⟩) ::
  (nat_lit 120, ⟨.type "tuple", none, .seq #[] 0, #[]⟩) ::
  (nat_lit 122, ⟨.type "code", none, .fields #[.str "most_size" 336, .str "Super.most_size" 337, .str "/claim/cut.py" 338, .int 57 0, .int 1 0, .int 0 0, .int 0 0, .int 3 0, .ref 117, .bool true, .int 181 0, .ref 118, .none, .ref 119, .ref 120, .ref 121, .int 340 0, .int 57 0, .str "/claim/cut.py" 341], #[]⟩) ::
  (nat_lit 123, fnO (inS 16 2) "Super.most_size" 122 (.str "pipeboard.inodes" 249) .none) ::
  (nat_lit 124, ⟨.type "tuple", none, .seq #[] 0, #[]⟩) ::
  (nat_lit 126, ⟨.type "tuple", none, .seq #[.str "self" 346, .str "data" 347] 0, #[]⟩) ::
  (nat_lit 127, ⟨.type "tuple", none, .seq #[] 0, #[]⟩) ::
  (nat_lit 129, ⟨.type "code", none, .fields #[.str "words" 343, .str "Super.words" 344, .str "/claim/cut.py" 345, .int 60 0, .int 1 0, .int 0 0, .int 0 0, .int 3 0, .ref 124, .bool true, .int 181 0, .ref 125, .none, .ref 126, .ref 127, .ref 128, .int 348 0, .int 60 0, .str "/claim/cut.py" 349], #[]⟩) ::
  (nat_lit 130, fnO (inS 16 3) "Super.words" 129 (.str "pipeboard.inodes" 249) .none) ::
  (nat_lit 131, ⟨.type "tuple", none, .seq #[] 0, #[]⟩) ::
  (nat_lit 133, ⟨.type "tuple", none, .seq #[.str "self" 354, .str "found" 355, .str "at" 356, .str "value" 357] 0, #[]⟩) ::
  (nat_lit 134, ⟨.type "tuple", none, .seq #[] 0, #[]⟩) ::
  (nat_lit 136, ⟨.type "code", none, .fields #[.str "octets" 351, .str "Super.octets" 352, .str "/claim/cut.py" 353, .int 64 0, .int 1 0, .int 0 0, .int 0 0, .int 3 0, .ref 131, .bool true, .int 181 0, .ref 132, .none, .ref 133, .ref 134, .ref 135, .int 358 0, .int 64 0, .str "/claim/cut.py" 359], #[]⟩) ::
  (nat_lit 137, fnO (inS 16 4) "Super.octets" 136 (.str "pipeboard.inodes" 249) .none) ::
  (nat_lit 138, ⟨.type "tuple", none, .seq #[] 0, #[]⟩) ::
  (nat_lit 140, ⟨.type "tuple", none, .seq #[.str "self" 364, .str "number" 365] 0, #[]⟩) ::
  (nat_lit 141, ⟨.type "tuple", none, .seq #[] 0, #[]⟩) ::
  (nat_lit 143, ⟨.type "code", none, .fields #[.str "row_of" 361, .str "Super.row_of" 362, .str "/claim/cut.py" 363, .int 70 0, .int 2 0, .int 0 0, .int 0 0, .int 3 0, .ref 138, .bool true, .int 181 0, .ref 139, .none, .ref 140, .ref 141, .ref 142, .int 366 0, .int 70 0, .str "/claim/cut.py" 367], #[]⟩) ::
  (nat_lit 144, fnO (inS 16 5) "Super.row_of" 143 (.str "pipeboard.inodes" 249) .none) ::
  (nat_lit 145, ⟨.type "tuple", none, .seq #[] 0, #[]⟩) ::
  (nat_lit 147, ⟨.type "tuple", none, .seq #[.str "self" 372, .str "number" 373, .str "octet" 374] 0, #[]⟩) ::
  (nat_lit 148, ⟨.type "tuple", none, .seq #[] 0, #[]⟩) ::
  (nat_lit 150, ⟨.type "code", none, .fields #[.str "bit_of" 369, .str "Super.bit_of" 370, .str "/claim/cut.py" 371, .int 73 0, .int 2 0, .int 0 0, .int 0 0, .int 3 0, .ref 145, .bool true, .int 181 0, .ref 146, .none, .ref 147, .ref 148, .ref 149, .int 375 0, .int 73 0, .str "/claim/cut.py" 376], #[]⟩) ::
  (nat_lit 151, fnO (inS 16 6) "Super.bit_of" 150 (.str "pipeboard.inodes" 249) .none) ::
  (nat_lit 152, ⟨.type "tuple", none, .seq #[.str "bitmap_start" 378, .str "block" 379, .str "blocks" 380, .str "data_start" 381, .str "direct" 382, .str "indirect" 383, .str "inode_start" 384, .str "inodes" 385, .str "log" 386, .str "log_start" 387, .str "row" 388, .str "rows" 389] 0, #[]⟩) ::
  (nat_lit 153, ⟨.type "dict", none, .dict #[⟨PyData.keyHash P "__module__", .str "__module__" 312, .str "pipeboard.inodes" 249⟩, ⟨PyData.keyHash P "__firstlineno__", .str "__firstlineno__" 316, .int 30 315⟩, ⟨PyData.keyHash P "__init__", .str "__init__" 328, .ref 109⟩, ⟨PyData.keyHash P "most_blocks", .str "most_blocks" 335, .ref 116⟩, ⟨PyData.keyHash P "most_size", .str "most_size" 342, .ref 123⟩, ⟨PyData.keyHash P "words", .str "words" 350, .ref 130⟩, ⟨PyData.keyHash P "octets", .str "octets" 360, .ref 137⟩, ⟨PyData.keyHash P "row_of", .str "row_of" 368, .ref 144⟩, ⟨PyData.keyHash P "bit_of", .str "bit_of" 377, .ref 151⟩, ⟨PyData.keyHash P "__static_attributes__", .str "__static_attributes__" 390, .ref 152⟩, ⟨PyData.keyHash P "__dict__", .str "__dict__" 392, .ref 155⟩, ⟨PyData.keyHash P "__weakref__", .str "__weakref__" 394, .ref 156⟩, ⟨PyData.keyHash P "__doc__", .str "__doc__" 395, .none⟩] 4, #[]⟩) ::
  (nat_lit 154, ⟨.type "type", none, .cls ⟨"Super", [.type "object"], [.ref 154, .type "object"], 153, "Super", true, [], [], false, none, false⟩, #[none, none, some (.str "Super" 305), some (.str "Super" 313), some (.builtin "object.__new__"), some (.bool true)]⟩) ::
  (nat_lit 155, ⟨.type "getset_descriptor", none, .fields #[.str "__dict__" 391, .ref 154, .builtin "function.__dict__", .builtin "function.__dict__#set"], #[]⟩) ::
  (nat_lit 156, ⟨.type "getset_descriptor", none, .fields #[.str "__weakref__" 393, .ref 154, .builtin "ExceptionGroup.__weakref__", .none], #[]⟩) ::
  (nat_lit 159, ⟨.type "tuple", none, .seq #[] 0, #[]⟩) ::
  (nat_lit 162, ⟨.type "code", none, .fields #[.str "read_super" 398, .str "read_super" 399, .str "/claim/cut.py" 400, .int 76 0, .int 1 0, .int 0 0, .int 0 0, .int 3 0, .ref 159, .bool true, .int 181 0, .ref 160, .none, .none, .none, .ref 161, .int 401 0, .int 76 0, .str "/claim/cut.py" 402], #[]⟩) ::
  (nat_lit 163, fnO (topS 17) "read_super" 162 (.str "pipeboard.inodes" 249) .none) ::
  (nat_lit 164, ⟨.type "tuple", none, .seq #[] 0, #[]⟩) ::
  (nat_lit 166, ⟨.type "tuple", none, .seq #[.str "path" 415] 0, #[]⟩) ::
  (nat_lit 167, ⟨.type "tuple", none, .seq #[] 0, #[]⟩) ::
  (nat_lit 169, ⟨.type "code", none, .fields #[.str "octets_of" 412, .str "octets_of" 413, .str "/claim/cut.py" 414, .int 93 0, .int 1 0, .int 0 0, .int 0 0, .int 3 0, .ref 164, .bool true, .int 181 0, .ref 165, .none, .ref 166, .ref 167, .ref 168, .int 416 0, .int 93 0, .str "/claim/cut.py" 417], #[]⟩) ::
  (nat_lit 170, fnO (topS 22) "octets_of" 169 (.str "pipeboard.paths" 404) .none) ::
  (nat_lit 171, ⟨.type "tuple", none, .seq #[] 0, #[]⟩) ::
  (nat_lit 173, ⟨.type "tuple", none, .seq #[.str "name" 422] 0, #[]⟩) ::
  (nat_lit 174, ⟨.type "tuple", none, .seq #[] 0, #[]⟩) ::
  (nat_lit 176, ⟨.type "code", none, .fields #[.str "cut_name" 419, .str "cut_name" 420, .str "/claim/cut.py" 421, .int 95 0, .int 1 0, .int 0 0, .int 0 0, .int 3 0, .ref 171, .bool true, .int 181 0, .ref 172, .none, .ref 173, .ref 174, .ref 175, .int 423 0, .int 95 0, .str "/claim/cut.py" 424], #[]⟩) ::
  (nat_lit 177, fnO (topS 23) "cut_name" 176 (.str "pipeboard.paths" 404) .none) ::
  (nat_lit 178, ⟨.type "tuple", none, .seq #[] 0, #[]⟩) ::
  (nat_lit 180, ⟨.type "tuple", none, .seq #[.str "path" 429, .str "found" 430, .str "part" 431, .str "octet" 432] 0, #[]⟩) ::
  (nat_lit 181, ⟨.type "tuple", none, .seq #[] 0, #[]⟩) ::
  (nat_lit 183, ⟨.type "code", none, .fields #[.str "parts_of" 426, .str "parts_of" 427, .str "/claim/cut.py" 428, .int 97 0, .int 1 0, .int 0 0, .int 0 0, .int 3 0, .ref 178, .bool true, .int 181 0, .ref 179, .none, .ref 180, .ref 181, .ref 182, .int 433 0, .int 97 0, .str "/claim/cut.py" 434], #[]⟩) ::
  (nat_lit 184, fnO (topS 24) "parts_of" 183 (.str "pipeboard.paths" 404) .none) ::
  (nat_lit 185, ⟨.type "tuple", none, .seq #[] 0, #[]⟩) ::
  (nat_lit 187, ⟨.type "tuple", none, .seq #[.str "number" 439, .str "name" 440, .str "row" 441] 0, #[]⟩) ::
  (nat_lit 188, ⟨.type "tuple", none, .seq #[] 0, #[]⟩) ::
  (nat_lit 190, ⟨.type "code", none, .fields #[.str "row_for" 436, .str "row_for" 437, .str "/claim/cut.py" 438, .int 106 0, .int 2 0, .int 0 0, .int 0 0, .int 3 0, .ref 185, .bool true, .int 181 0, .ref 186, .none, .ref 187, .ref 188, .ref 189, .int 442 0, .int 106 0, .str "/claim/cut.py" 443], #[]⟩) ::
  (nat_lit 191, fnO (topS 25) "row_for" 190 (.str "pipeboard.paths" 404) .none) ::
  (nat_lit 192, ⟨.type "tuple", none, .seq #[] 0, #[]⟩) ::
  (nat_lit 194, ⟨.type "tuple", none, .seq #[.str "row" 448, .str "found" 449, .str "octet" 450] 0, #[]⟩) ::
  (nat_lit 195, ⟨.type "tuple", none, .seq #[] 0, #[]⟩) ::
  (nat_lit 197, ⟨.type "code", none, .fields #[.str "name_in" 445, .str "name_in" 446, .str "/claim/cut.py" 447, .int 111 0, .int 1 0, .int 0 0, .int 0 0, .int 3 0, .ref 192, .bool true, .int 181 0, .ref 193, .none, .ref 194, .ref 195, .ref 196, .int 451 0, .int 111 0, .str "/claim/cut.py" 452], #[]⟩) ::
  (nat_lit 198, fnO (topS 26) "name_in" 197 (.str "pipeboard.paths" 404) .none) ::
  (nat_lit 199, ⟨.type "tuple", none, .seq #[] 0, #[]⟩) ::
  (nat_lit 201, ⟨.type "tuple", none, .seq #[.str "script" 459, .str "whole" 460, .str "cell" 461] 0, #[]⟩) ::
  (nat_lit 202, ⟨.type "tuple", none, .seq #[] 0, #[]⟩) ::
  (nat_lit 204, ⟨.type "code", none, .fields #[.str "_law_pool" 456, .str "_law_pool" 457, .str "/claim/cut.py" 458, .int 119 0, .int 1 0, .int 0 0, .int 0 0, .int 3 0, .ref 199, .bool true, .int 181 0, .ref 200, .none, .ref 201, .ref 202, .ref 203, .int 462 0, .int 119 0, .str "/claim/cut.py" 463], #[]⟩) ::
  (nat_lit 205, fnO (topS 28) "_law_pool" 204 (.str "law_nz0212_01" 454) .none) ::
  (nat_lit 206, ⟨.type "tuple", none, .seq #[] 0, #[]⟩) ::
  (nat_lit 208, ⟨.type "tuple", none, .seq #[.str "pool" 468, .str "many" 469, .str "digit" 470] 0, #[]⟩) ::
  (nat_lit 209, ⟨.type "tuple", none, .seq #[] 0, #[]⟩) ::
  (nat_lit 211, ⟨.type "code", none, .fields #[.str "_law_take" 465, .str "_law_take" 466, .str "/claim/cut.py" 467, .int 124 0, .int 2 0, .int 0 0, .int 0 0, .int 3 0, .ref 206, .bool true, .int 181 0, .ref 207, .none, .ref 208, .ref 209, .ref 210, .int 471 0, .int 124 0, .str "/claim/cut.py" 472], #[]⟩) ::
  (nat_lit 212, fnO (topS 29) "_law_take" 211 (.str "law_nz0212_01" 454) .none) ::
  (nat_lit 213, ⟨.type "tuple", none, .seq #[] 0, #[]⟩) ::
  (nat_lit 216, ⟨.type "code", none, .fields #[.str "_law_path" 474, .str "_law_path" 475, .str "/claim/cut.py" 476, .int 131 0, .int 2 0, .int 0 0, .int 0 0, .int 3 0, .ref 213, .bool true, .int 181 0, .ref 214, .none, .none, .none, .ref 215, .int 477 0, .int 131 0, .str "/claim/cut.py" 478], #[]⟩) ::
  (nat_lit 217, fnO (topS 30) "_law_path" 216 (.str "law_nz0212_01" 454) .none) ::
  (nat_lit 218, ⟨.type "tuple", none, .seq #[] 0, #[]⟩) ::
  (nat_lit 220, ⟨.type "tuple", none, .seq #[.str "octets" 483, .str "found" 484, .str "here" 485, .str "at" 486, .str "sign" 487] 0, #[]⟩) ::
  (nat_lit 221, ⟨.type "tuple", none, .seq #[] 0, #[]⟩) ::
  (nat_lit 223, ⟨.type "code", none, .fields #[.str "_law_parts" 480, .str "_law_parts" 481, .str "/claim/cut.py" 482, .int 135 0, .int 1 0, .int 0 0, .int 0 0, .int 3 0, .ref 218, .bool true, .int 181 0, .ref 219, .none, .ref 220, .ref 221, .ref 222, .int 488 0, .int 135 0, .str "/claim/cut.py" 489], #[]⟩) ::
  (nat_lit 224, fnO (topS 31) "_law_parts" 223 (.str "law_nz0212_01" 454) .none) ::
  (nat_lit 225, ⟨.type "tuple", none, .seq #[] 0, #[]⟩) ::
  (nat_lit 227, ⟨.type "tuple", none, .seq #[.str "pool" 494, .str "path" 495, .str "octets" 496, .str "due" 497, .str "name" 498, .str "number" 499, .str "row" 500] 0, #[]⟩) ::
  (nat_lit 228, ⟨.type "tuple", none, .seq #[] 0, #[]⟩) ::
  (nat_lit 230, ⟨.type "code", none, .fields #[.str "_law_path_right" 491, .str "_law_path_right" 492, .str "/claim/cut.py" 493, .int 145 0, .int 2 0, .int 0 0, .int 0 0, .int 3 0, .ref 225, .bool true, .int 181 0, .ref 226, .none, .ref 227, .ref 228, .ref 229, .int 501 0, .int 145 0, .str "/claim/cut.py" 502], #[]⟩) ::
  (nat_lit 231, fnO (topS 32) "_law_path_right" 230 (.str "law_nz0212_01" 454) .none) ::
  (nat_lit 232, ⟨.type "tuple", none, .seq #[] 0, #[]⟩) ::
  (nat_lit 234, ⟨.type "tuple", none, .seq #[.str "pool" 507, .str "value" 508, .str "at" 509, .str "row" 510, .str "due" 511] 0, #[]⟩) ::
  (nat_lit 235, ⟨.type "tuple", none, .seq #[] 0, #[]⟩) ::
  (nat_lit 237, ⟨.type "code", none, .fields #[.str "_law_words_right" 504, .str "_law_words_right" 505, .str "/claim/cut.py" 506, .int 158 0, .int 1 0, .int 0 0, .int 0 0, .int 3 0, .ref 232, .bool true, .int 181 0, .ref 233, .none, .ref 234, .ref 235, .ref 236, .int 512 0, .int 158 0, .str "/claim/cut.py" 513], #[]⟩) ::
  (nat_lit 238, fnO (topS 33) "_law_words_right" 237 (.str "law_nz0212_01" 454) .none) ::
  (nat_lit 239, ⟨.type "tuple", none, .seq #[] 0, #[]⟩) ::
  (nat_lit 241, ⟨.type "tuple", none, .seq #[.str "block" 518, .str "blocks" 519, .str "inodes" 520, .str "log" 521, .str "direct" 522, .str "rows" 523, .str "bitmap" 524, .str "data" 525] 0, #[]⟩) ::
  (nat_lit 242, ⟨.type "tuple", none, .seq #[] 0, #[]⟩) ::
  (nat_lit 244, ⟨.type "code", none, .fields #[.str "_law_plan" 515, .str "_law_plan" 516, .str "/claim/cut.py" 517, .int 167 0, .int 5 0, .int 0 0, .int 0 0, .int 3 0, .ref 239, .bool true, .int 181 0, .ref 240, .none, .ref 241, .ref 242, .ref 243, .int 526 0, .int 167 0, .str "/claim/cut.py" 527], #[]⟩) ::
  (nat_lit 245, fnO (topS 34) "_law_plan" 244 (.str "law_nz0212_01" 454) .none) ::
  (nat_lit 246, ⟨.type "tuple", none, .seq #[] 0, #[]⟩) ::
  (nat_lit 248, ⟨.type "tuple", none, .seq #[.str "block" 532, .str "blocks" 533, .str "inodes" 534, .str "log" 535, .str "direct" 536] 0, #[]⟩) ::
  (nat_lit 249, ⟨.type "tuple", none, .seq #[] 0, #[]⟩) ::
  (nat_lit 251, ⟨.type "code", none, .fields #[.str "_law_told" 529, .str "_law_told" 530, .str "/claim/cut.py" 531, .int 176 0, .int 5 0, .int 0 0, .int 0 0, .int 3 0, .ref 246, .bool true, .int 181 0, .ref 247, .none, .ref 248, .ref 249, .ref 250, .int 537 0, .int 176 0, .str "/claim/cut.py" 538], #[]⟩) ::
  (nat_lit 252, fnO (topS 35) "_law_told" 251 (.str "law_nz0212_01" 454) .none) ::
  (nat_lit 253, ⟨.type "tuple", none, .seq #[] 0, #[]⟩) ::
  (nat_lit 255, ⟨.type "tuple", none, .seq #[.str "octets" 543] 0, #[]⟩) ::
  (nat_lit 256, ⟨.type "tuple", none, .seq #[] 0, #[]⟩) ::
  (nat_lit 258, ⟨.type "code", none, .fields #[.str "_law_read" 540, .str "_law_read" 541, .str "/claim/cut.py" 542, .int 181 0, .int 1 0, .int 0 0, .int 0 0, .int 3 0, .ref 253, .bool true, .int 181 0, .ref 254, .none, .ref 255, .ref 256, .ref 257, .int 544 0, .int 181 0, .str "/claim/cut.py" 545], #[]⟩) ::
  (nat_lit 259, fnO (topS 36) "_law_read" 258 (.str "law_nz0212_01" 454) .none) ::
  (nat_lit 260, ⟨.type "tuple", none, .seq #[] 0, #[]⟩) ::
  (nat_lit 263, ⟨.type "code", none, .fields #[.str "_law_places_right" 547, .str "_law_places_right" 548, .str "/claim/cut.py" 549, .int 186 0, .int 6 0, .int 0 0, .int 0 0, .int 3 0, .ref 260, .bool true, .int 181 0, .ref 261, .none, .none, .none, .ref 262, .int 550 0, .int 186 0, .str "/claim/cut.py" 551], #[]⟩) ::
  (nat_lit 264, fnO (topS 37) "_law_places_right" 263 (.str "law_nz0212_01" 454) .none) ::
  (nat_lit 265, ⟨.type "tuple", none, .seq #[] 0, #[]⟩) ::
  (nat_lit 268, ⟨.type "code", none, .fields #[.str "_law_super_right" 553, .str "_law_super_right" 554, .str "/claim/cut.py" 555, .int 199 0, .int 1 0, .int 0 0, .int 0 0, .int 3 0, .ref 265, .bool true, .int 181 0, .ref 266, .none, .none, .none, .ref 267, .int 556 0, .int 199 0, .str "/claim/cut.py" 557], #[]⟩) ::
  (nat_lit 269, fnO (topS 38) "_law_super_right" 268 (.str "law_nz0212_01" 454) .none) ::
  (nat_lit 270, ⟨.type "tuple", none, .seq #[] 0, #[]⟩) ::
  (nat_lit 272, ⟨.type "tuple", none, .seq #[.str "script" 562, .str "pool" 563, .str "turn" 564] 0, #[]⟩) ::
  (nat_lit 273, ⟨.type "tuple", none, .seq #[] 0, #[]⟩) ::
  (nat_lit 275, ⟨.type "code", none, .fields #[.str "law" 559, .str "law" 560, .str "/claim/cut.py" 561, .int 219 0, .int 1 0, .int 0 0, .int 0 0, .int 3 0, .ref 270, .bool true, .int 181 0, .ref 271, .none, .ref 272, .ref 273, .ref 274, .int 565 0, .int 219 0, .str "/claim/cut.py" 566], #[]⟩) ::
  (nat_lit 276, fnO (topS 39) "law" 275 (.str "law_nz0212_01" 454) .none) :: []
noncomputable def hd.view_39 : Program := PySem.W.view pw [1, 2, 3, 5, 6, 7, 8, 9, 10, 11, 12, 13, 14, 15, 16, 17, 19, 20, 21, 22, 23, 24, 25, 26, 28, 29, 30, 31, 32, 33, 34, 35, 36, 37, 38, 39]
noncomputable abbrev lo : List Str := [Str.ofString "BoardError", Str.ofString "Super"]
noncomputable abbrev asK : List Addr := [2, 3, 15, 22, 23, 25, 26, 28, 29, 30, 31, 32, 33, 36, 43, 44, 45, 48, 55, 56, 57, 60, 62, 63, 65, 66, 67, 69, 70, 72, 73, 74, 76, 77, 79, 80, 81, 83, 84, 86, 87, 88, 90, 91, 93, 94, 102, 103, 105, 106, 108, 109, 110, 112, 113, 115, 116, 117, 119, 120, 122, 123, 124, 126, 127, 129, 130, 131, 133, 134, 136, 137, 138, 140, 141, 143, 144, 145, 147, 148, 150, 151, 152, 153, 154, 155, 156, 159, 162, 163, 164, 166, 167, 169, 170, 171, 173, 174, 176, 177, 178, 180, 181, 183, 184, 185, 187, 188, 190, 191, 192, 194, 195, 197, 198, 199, 201, 202, 204, 205, 206, 208, 209, 211, 212, 213, 216, 217, 218, 220, 221, 223, 224, 225, 227, 228, 230, 231, 232, 234, 235, 237, 238, 239, 241, 242, 244, 245, 246, 248, 249, 251, 252, 253, 255, 256, 258, 259, 260, 263, 264, 265, 268, 269, 270, 272, 273, 275, 276]
noncomputable abbrev HK : Hook := kHook hd.heap_39 asK (fun _ => by kernel_rfl)
noncomputable abbrev XtK : Shared → Bool := fun s => xlAt hd.view_39 [] s && recOk PySem.Challenge.rw_nz0212_01.row.records s
noncomputable abbrev S0 (w : World) (os : OsState) : Shared := ⟨boot_heap w.params, #[], boot_drawn, boot_toks, os⟩
/-- the run of the top and the looks at what it leaves, at once, in the library's quick words -/
theorem once0 (w : World) (os : OsState) :
    (match (S0 w os).heap.isNs mainGlobals && (S0 w os).gens.size == 0 with
      | true => (PySem.W.Fast.tw14082659384304107361 PySem.W.Fast.tw14364793385576792824 pw w (S0 w os).heap.objs.size (PySem.W.Fast.tw8920871248978507458 (S0 w os).heap mainGlobals "__annotations__") 3922 (S0 w os) (topStub pw)).bind fun s₁ => match staticsOk (PySem.W.Fast.tw5923862056798008813 pw.main.body) (S0 w os).heap s₁.heap && namesBound pw s₁.heap && gensDone s₁ && laidKept (S0 w os).heap s₁.heap with
        | true => some s₁
        | false => none
      | false => none).map (fun s => (PySem.W.Fast.tw4187177175401517315 hd.view_39 lo (PySem.W.Fast.tw5923862056798008813 pw.main.body) XtK true s, HK.obs s)) = some (openGood hd.view_39 lo, HK.val w) := by kernel_rfl
theorem once (w : World) (os : OsState) : (topFrom treeTable pw w 3922 (S0 w os)).map (fun s => (openSeen hd.view_39 lo (importedModules pw.main.body) XtK true s, HK.obs s)) = some (openGood hd.view_39 lo, HK.val w) := by
  have h := once0 w os
  rw [← PySem.W.Fast.te14082659384304107361, ← PySem.W.Fast.te14364793385576792824, ← PySem.W.Fast.te8920871248978507458, ← PySem.W.Fast.te5923862056798008813, ← PySem.W.Fast.te4187177175401517315] at h
  exact h
theorem boot (w : World) : (fencedOpening treeTable pw w 3922).map (fun s => (s.heap, s.gens, s.drawn, s.toks)) = some (boot_heap w.params, Array.mk [], boot_drawn, boot_toks) :=
  boot_open (by kernel_rfl) (by kernel_rfl) (fun s => by kernel_rfl) w
theorem left : LeftO pw hd.view_39 lo XtK HK.obs HK.val 3922 := fun w => by
  obtain ⟨⟨h, gs, d, k, os⟩, e, e'⟩ := Option.map_eq_some_iff.mp (boot w)
  obtain ⟨rfl, rfl, rfl, rfl⟩ : h = boot_heap w.params ∧ gs = Array.mk [] ∧ d = boot_drawn ∧ k = boot_toks := by simpa using e'
  show Option.map _ ((fencedOpening treeTable pw w 3922).bind (topFrom treeTable pw w 3922)) = _
  rw [e, Option.bind_some]
  exact once w os
theorem said : PySem.Challenge.rw_nz0212_01.wellSaid = true := by
  unfold OpenLaw.wellSaid
  rw [PySem.W.Fast.te17960256430627541270, PySem.W.Fast.te17119622794617984870, PySem.W.Fast.te8326940854005059898, PySem.W.Fast.te8179353310426384613, PySem.W.Fast.te9558739934217749035, PySem.W.Fast.te10501279942588096481, PySem.W.Fast.te16286561074155671207]
  kernel_rfl
abbrev rR : OpenRow := PySem.Challenge.rw_nz0212_01.row
theorem okR : (chainsOk hd.view_39 && opensWell rR.prog && (frees rR.toRowW && rR.within.isEmpty)) = true := by decide +kernel
theorem bareR : rR.prog.bare := ⟨rfl, rfl, rfl, rfl, rfl, by decide +kernel⟩
theorem promR : rR.toRowW.promised := ⟨[WData.list []], by decide +kernel, by decide +kernel⟩
theorem xR (s : Shared) (e : XtK s = true) : XL hd.view_39 [] (s.heap.nsMap mainGlobals) s.heap := xl_of s (Bool.and_eq_true_iff.mp e).1
theorem recR (s : Shared) (e : XtK s = true) : RecFacts rR.records s.heap := recFacts_of (Bool.and_eq_true_iff.mp e).2
/-- the head: as the library's, but the call is asked only for calm stacks, and for this row alone -/
theorem core {d : DefRec} {kwd : List (Str × Expr)} (hdef : defOf hd.view_39 rR.name = some (d, kwd)) (hp : rR.prog.theDef rR.name = some (d.params, d.body, d.scope)) (hk : kwWritten? d.params.kwonlyargs d.params.kw_defaults = some kwd)
    (k1 : rR.wellSaid = true) (call : WalkC hd.view_39 lo (XL hd.view_39 []) (InK hd.heap_39) rR.toRowW d kwd) : rR.Holds := by
  have ok := okR
  have hw := promR
  have hb := bareR
  have hwr : (!rR.writes || rR.records.isEmpty) = true := rfl
  simp only [Bool.and_eq_true] at ok
  obtain ⟨⟨hch, o1⟩, k5, k6⟩ := ok
  obtain ⟨hsame, hu, ha, hap, hm⟩ := frees_parts k5
  have hi := ident_freeW hu ha hap
  have hwi : rR.toRowW.claim.within = [] := List.isEmpty_iff.mp k6
  refine ⟨k1, hw, ⟨hb, o1, by first | rfl | (rw [hm]; rfl)⟩, hw.witness, fun w => ⟨(left.behind xR hch w).1, fun s' hs' => ?_⟩⟩
  obtain ⟨s₀, hf, hg0, s, hT, hz, hgens, hg, G', y⟩ := (left.behind (XP := fun mg h => XL hd.view_39 [] mg h ∧ RecFacts rR.records h) (fun s hs => ⟨xR s hs, recR s hs⟩) hch w).2 s' hs'
  have G0 : Ground hd.view_39 lo [] (XL hd.view_39 []) w s (s.heap.nsMap mainGlobals) (s.heap.nsMap builtinsNs) s.heap := ⟨G'.T, G'.B, G'.D, G'.TE, G'.TD, G'.W, G'.X.1, G'.cls, G'.has, G'.apart, G'.once, G'.K⟩
  have RF := G'.X.2
  have hgens : s.gens = #[] := Array.eq_empty_of_size_eq_zero (beq_iff_eq.mp hgens)
  have G : Ground hd.view_39 lo rR.records (XL hd.view_39 []) w s _ _ s.heap := RF.ground G0
  refine ⟨s₀, hf, hg0, s, hT, fun n hn => ?_, RF.1, RF.2.1, fun args hpre hlay ord hord => ?_⟩
  · obtain rfl : n = rR.name := by split at hn <;> simp_all
    exact pinned_of_view hg G0 hdef hp hk
  obtain ⟨⟨vs, s₁⟩, hlaid⟩ := Option.isSome_iff_exists.mp (layAllW_isSome (P := w.params) (ord := ord) G.has args rR.args s (pre_splitW hpre).1)
  have keeps := layAllW_keeps _ _ _ hlaid
  have hal := layAllW_rest _ _ _ hlaid
  obtain ⟨as, hrd, hin, hold⟩ := reads_layAllW hord _ _ _ hlaid hlay s₁.heap (fun _ _ e => e)
  have L : Laid rR.records w s s₁ args vs as := ⟨⟨ord, hord, hlaid⟩, hrd, hin, hold, keeps, hal.1.trans hgens, hal.2.2.1⟩
  have G₁ := G.keeps XL.keeps keeps
  obtain ⟨a, o, pm, cd, doc, dV, kV, h1, h2, h3, h4, h5⟩ := G₁.fn hdef
  have h := call w s s₁ _ _ G₁ (HK.keeps _ _ _ (HK.of w s y) keeps) a o pm cd doc dV kV h2 h3 h4 h5 (defOf_name hdef ▸ h1) L.gens args vs as hpre hlay L.reads L.well (L.low G.low)
  obtain ⟨k, res, t', t'', hsched, hrun, hfo, hE, hos, hkp⟩ := ends_calm (prog := rR.prog) (w := w) (s := s₁)
    (t := do match ← nsGet mainNs rR.name with
      | some f => do ret (← PySem.call f vs)
      | none => unsupported "claim.caller:no-such-global")
    (R := fun res t' => rR.toRowW.claim.Ends s args vs s₁ res t' ∧ t'.os = s.os ∧ (rR.writes = true → namesKept rR.prog rR.keeps s.heap t'.heap))
    (Shared.asleep_of_life hal.2.2.2 hz)
    (wpC_bind (wpC_any (wpAny_nsGet G₁.T.g (by
      rw [h1]
      refine wpC_bind (wpC_mono (wpC_call (Q := fun v s' => GoodW rR.toRowW.claim (classAt s.heap) (ExcName.means s.heap) args s₁ (.ok (.ret v)) s')
        (E := fun e s' => GoodW rR.toRowW.claim (classAt s.heap) (ExcName.means s.heap) args s₁ (.error e) s') (codeC_mono h fun res s' g => ?_)) (fun v s' g => wpC_pure ?_) fun e s' g => ?_)
      · rcases g.1 with ⟨v, _, _, rfl, _⟩ | ⟨e, _, _, rfl, _⟩ <;> exact g
      · have z := g.toG.laid (c := rR.toRowW.claim) hsame hwi hi L
        exact ⟨_, rfl, ⟨z.1, z.2.1, fun q => namesKept_of hT hg rR.keeps keeps g.toG.2.1.old⟩, z.2.2⟩
      · have z := g.toG.laid (c := rR.toRowW.claim) hsame hwi hi L
        exact ⟨⟨z.1, z.2.1, fun q => namesKept_of hT hg rR.keeps keeps g.toG.2.1.old⟩, z.2.2⟩))))
  obtain ⟨eh, _, _, eo, _⟩ := Shared.forget_eq hfo
  have hE := hE.congr eh
  have hkp : rR.writes = true → namesKept rR.prog rR.keeps s.heap t''.heap := fun q => eh ▸ hkp q
  rw [← eo] at hos
  have hlife : t''.heap.life = s.heap.life := (runN_life _ _ _ hrun).trans hal.2.2.2
  refine ⟨vs, s₁, hlaid, k, _, t'', hsched, ?_, (fun _ i x hx => by rw [hgens] at hx; simp at hx), fun q => ⟨hkp q, noTable hwr q⟩, by rw [hlife], Shared.rest_eq hos⟩
  rcases hE with ⟨v, rfl, d1, d2, d3, d4, d5⟩ | ⟨e, ob, cls, rfl, d1, d2, d3, d4, d5⟩
  · exact .inl ⟨v, rfl, d1, d2, d3, fun b o y _ => d4 b o y, d5⟩
  · exact .inr ⟨e, ob, cls, rfl, d1, d2, d3, d4, fun b o y _ => d5 b o y⟩
theorem hd {d : DefRec} {kwd : List (Str × Expr)} (hdef : defOf hd.view_39 PySem.Challenge.rw_nz0212_01.row.name = some (d, kwd))
    (hp : PySem.Challenge.rw_nz0212_01.row.prog.theDef PySem.Challenge.rw_nz0212_01.row.name = some (d.params, d.body, d.scope)) (hk : kwWritten? d.params.kwonlyargs d.params.kw_defaults = some kwd)
    (walk : WalkC hd.view_39 lo (XL hd.view_39 []) (InK hd.heap_39) PySem.Challenge.rw_nz0212_01.row.toRowW d kwd) : PySem.Challenge.rw_nz0212_01.Holds :=
  holds_law said fun said' => core hdef hp hk said' walk
end
end NzH
end
namespace Nz
open PySem PySem.W PySem.Calls PyProof.Rows
local macro_rules | `(tactic| k_steps) => `(tactic| walk_at "nz steps")
local macro_rules | `(tactic| k_all) => `(tactic| k_extra "nz all")
local macro_rules | `(tactic| k_ne) => `(tactic| k_extra "nz ne")
local macro_rules | `(tactic| mul_fits) => `(tactic| k_extra "nz mf")
theorem words : True := by
  k_with "L0" => (repeat ((with_reducible rename _ ≠ _ => z0); clear z0))
  k_with "L1" => ((repeat ((with_reducible rename @LT.lt Nat _ _ _ => z0); clear z0)); (repeat ((with_reducible rename @LE.le Nat _ _ _ => z0); clear z0)); (repeat ((with_reducible rename (@LT.lt Nat _ _ _) ∧ _ => z0); clear z0)))
  k_with "L2" => ((repeat ((with_reducible rename @LT.lt Int _ _ _ => z0); clear z0)); (repeat ((with_reducible rename @LE.le Int _ _ _ => z0); clear z0)))
  k_with "L3" => ((repeat ((with_reducible rename _ < recursionLimit => z0); clear z0)); (repeat ((with_reducible rename _ < cLine => z0); clear z0)); (repeat ((with_reducible rename @LE.le Nat _ _ _ => z0); clear z0)))
  k_with "L4" => first | ((first | (with_reducible show @LE.le Int _ _ _) | (with_reducible show @LT.lt Int _ _ _)); walk_at "nz pq"; walk_at "nz pn"; omega) | ((first | (with_reducible show @LE.le Nat _ _ _) | (with_reducible show @LT.lt Nat _ _ _)); walk_at "nz pq"; walk_at "nz pi"; omega) | (walk_at "nz pq"; omega) | omega
  k_with "L5" => ((case zB => k_asm); (case zF => k_asm); (case zX => k_asm); (case zN => k_asm); (case zT => k_asm); (case zf => exact rfl); (case zk => exact rfl); (case zd => first | ((with_reducible rename _ + _ < recursionLimit => hd9); exact roomD1 hd9 rfl) | (simp only [depth_deeper] at *; omega)); (case zu => first | ((with_reducible rename _ + _ < cLine => hd9); exact roomU3 hd9 rfl) | (simp only [units_deeper] at *; omega)))
  k_with "L6" => first | with_reducible assumption | decide | exact Int.lt_of_lt_of_le (by with_reducible assumption) (by decide) | exact Int.le_trans (by with_reducible assumption) (by decide) | exact Nat.lt_of_lt_of_le (by with_reducible assumption) (by decide) | exact Nat.le_trans (by with_reducible assumption) (by decide) | exact Int.le_of_lt (Int.lt_of_lt_of_le (by with_reducible assumption) (by decide)) | exact Int.add_nonneg (by first | decide | with_reducible assumption) (by first | decide | with_reducible assumption) | walk_at "nz oo"
  k_with "L7" => (k_dflt (refine' ctr_def ?k6.u2 ?k7.u2 ?k9.u2 ?kB.u2 ?c2.u2 ?c3.u2 ?c4.u2 ?c5.u2 ?_; (case k6 => (with_unfolding_all rfl)); (case k7 => (with_unfolding_all rfl)); (case k9 => exact rfl); (case kB => exact locs rfl); (case c2 => exact rfl); (case c3 => exact rfl); (case c4 => exact rfl); (case c5 => decide); k_whole))
  k_with "L8" => (k_fill; intro mean mg mb dp un gd env outer base g L s B F X N T hd hu; (try dsimp only); k_fold)
  k_with "L9" => (walk_at "nz enter"; walk_at "nz intro"; k_steps)
  k_with "L10" => ((try dsimp only); refine ⟨_, _, by k_asm, by k_asm, ?_, rfl, rfl, rfl⟩; (try dsimp only [retOf]))
  k_with "L11" => (k_here; (with_reducible show wpAny _ _ (subscriptTail _ _ (Value.ref _) (Value.int _ _)) _ _ _); k_dflt (refine' ba_item ?ho.u7 ?hk.u7 ?h0.u7 ?h1.u7 ?h2.u7 ?_ ?hs.u7; (case ho => exact News.get (by k_asm) (by k_mem)); (case hk => with_reducible assumption); (case h0 => walk_at "nz om"); (case h1 => walk_at "nz om"); (case h2 => walk_at "nz om"); (case hs => with_unfolding_all rfl); k_whole); intro q0 q1)
  k_with "L12" => (k_here; (with_reducible show wpAny _ _ (setItem (Value.ref _) (Value.int _ _) (Value.int _ _)) _ _ _); k_dflt (refine' ba_set ?F.u8 ?N.u8 ?hk.u8 ?U.u8 ?h0.u8 ?h1.u8 ?h2.u8 ?h3.u8 ?h4.u8 ?_; (case F => k_asm); (case N => k_asm); (case hk => with_reducible assumption); (case U => k_updF); (case h0 => walk_at "nz om"); (case h1 => first | walk_at "nz om" | (simp only [List.length_set]; omega)); (case h2 => first | walk_at "nz om" | (simp only [List.length_set]; omega)); (case h3 => first | walk_at "nz om" | (walk_at "nz side")); (case h4 => first | walk_at "nz om" | (walk_at "nz side"))); intro b' h' hb' F' N'; (try dsimp only at N'); (try k_sweep))
  k_with "L13" => first | (rw [bitAnd_m8]; omega) | walk_at "nz oo"
  k_with "L14" => first | exact Pick.head | (refine' Pick.tail ?_; walk_at "nz pick")
  k_with "L15" => first | exact sub_rfl | (refine sub_cons ?_ ?_ <;> (first | k_mem | (walk_at "nz sub"))) | (refine sub_tail ?_; walk_at "nz sub")
  k_with "L16" => first | k_asm | ((with_reducible rename News _ _ _ _ => N8); refine news_sub N8 ?_; walk_at "nz sub")
  k_with "L17" => first | rfl | ((with_reducible rename Same _ _ => hS9); first | exact hS9.1 | exact hS9.2.1 | exact hS9.2.2)
  k_with "L18" => ((try dsimp only); apply endQ_of; (case F => k_asm); (case S1 => walk_at "nz same"); (case S2 => walk_at "nz same"); (case S3 => walk_at "nz same"); (try dsimp only [retOf]))
  k_with "L19" => (simp only [List.length_append, List.length_cons, List.length_nil, List.length_replicate, putHalf_length, putWord_length, List.length_take, List.length_drop] at *; omega)
  k_with "L20" => (k_here; (with_reducible show wpAny _ _ (call (Value.ref 66) [Value.ref _, Value.int _ _]) _ _ _); k_dflt (refine' Ctr.use (c_half_a _ _ _ _ _ _ _ ?hb.u28 ?h0.u28 ?h1.u28 ?h2.u28) ?zB.u28 ?zF.u28 ?zX.u28 ?zN.u28 ?zT.u28 ?zs.u28 ?zf.u28 ?zk.u28 ?zd.u28 ?zu.u28 ?_; (walk_at "nz zz"); (case zs => exact Pick.sub (by walk_at "nz pick")); (case hb => with_reducible assumption); (case h0 => walk_at "nz om"); (case h1 => walk_at "nz om"); (case h2 => walk_at "nz om"); k_whole); intro r9 l9 h9 tk9 hP F9 N9; obtain ⟨⟨t9, e9⟩, lo9, hi9, e8⟩ := hP; subst e9; subst e8; (try dsimp only at N9); (try dsimp only); (try k_sweep); (try k_fold))
  k_with "L21" => (k_here; (with_reducible show wpAny _ _ (call (Value.ref 66) [Value.bytes _ _, Value.int _ _]) _ _ _); k_dflt (refine' Ctr.use (c_half_b _ _ _ _ _ _ _ ?hb.u29 ?h0.u29 ?h1.u29 ?h2.u29) ?zB.u29 ?zF.u29 ?zX.u29 ?zN.u29 ?zT.u29 ?zs.u29 ?zf.u29 ?zk.u29 ?zd.u29 ?zu.u29 ?_; (walk_at "nz zz"); (case zs => exact sub_rfl); (case hb => with_reducible assumption); (case h0 => walk_at "nz om"); (case h1 => walk_at "nz om"); (case h2 => walk_at "nz om"); k_whole); intro r9 l9 h9 tk9 hP F9 N9; obtain ⟨⟨t9, e9⟩, lo9, hi9, e8⟩ := hP; subst e9; subst e8; (try dsimp only at N9); (try dsimp only); (try k_sweep); (try k_fold))
  k_with "L22" => (k_here; (with_reducible show wpAny _ _ (call (Value.ref 80) [Value.ref _, Value.int _ _, Value.int _ _]) _ _ _); k_dflt (refine' Ctr.use (c_put_half _ _ _ _ _ _ _ _ _ ?hr.u30 ?hb.u30 ?h0.u30 ?h1.u30 ?h2.u30 ?h3.u30 ?h4.u30) ?zB.u30 ?zF.u30 ?zX.u30 ?zN.u30 ?zT.u30 ?zs.u30 ?zf.u30 ?zk.u30 ?zd.u30 ?zu.u30 ?_; (walk_at "nz zz"); (case zs => exact Pick.sub (by walk_at "nz pick")); (case hr => k_all); (case hb => with_reducible assumption); (case h0 => walk_at "nz om"); (case h1 => first | walk_at "nz om" | (walk_at "nz len")); (case h2 => first | walk_at "nz om" | (walk_at "nz len")); (case h3 => first | walk_at "nz om" | (walk_at "nz side")); (case h4 => first | walk_at "nz om" | (walk_at "nz side")); k_whole); intro r9 l9 h9 tk9 hP F9 N9; obtain ⟨e9, b9, hb9, e8⟩ := hP; subst e9; subst e8; (try dsimp only at N9); (try dsimp only); (try k_sweep); (try k_fold))
  k_with "L23" => first | (rw [bitAnd_m8]; omega) | (rw [bitAnd_m16]; omega) | walk_at "nz oo"
  k_with "L24" => (k_here; (with_reducible show wpAny _ _ (binaryOp Operator.FloorDiv (Value.int _ _) (Value.int _ _)) _ _ _); k_dflt (refine' div_rule ?h0.u32 ?h1.u32 ?_; (case h0 => walk_at "nz om"); (case h1 => walk_at "nz om"); k_whole))
  k_with "L25" => (k_here; (with_reducible show wpAny _ _ (binaryOp Operator.Mod (Value.int _ _) (Value.int _ _)) _ _ _); k_dflt (refine' mod_rule ?h0.u33 ?_; (case h0 => walk_at "nz om"); k_whole); intro m0 m1)
  k_with "L26" => (k_here; (with_reducible show wpAny _ _ (subscriptTail _ _ (Value.ref _) (Value.int _ _)) _ _ _); k_dflt (refine' pool_get0 ?hk.u34 ?ho.u34 ?_ ?hs.u34; (case hk => rfl); (case ho => exact News.get (by k_asm) (by k_mem)); (case hs => with_unfolding_all rfl); k_whole))
  k_with "L27" => (k_here; (with_reducible show wpAny _ _ (subscriptTail _ _ (Value.ref _) (Value.int _ _)) _ _ _); k_dflt (refine' pool_get1 ?hk.u35 ?ho.u35 ?_ ?hs.u35; (case hk => rfl); (case ho => exact News.get (by k_asm) (by k_mem)); (case hs => with_unfolding_all rfl); k_whole))
  k_with "L28" => (k_here; (with_reducible show wpAny _ _ (getItem (Value.ref _) (Value.int _ _)) _ _ _); k_dflt (refine' pool_gi1 ?hk.u36 ?ho.u36 ?_; (case hk => rfl); (case ho => exact News.get (by k_asm) (by k_mem)); k_whole))
  k_with "L29" => (k_here; (with_reducible show wpAny _ _ (setItem (Value.ref _) (Value.int _ _) (Value.int _ _)) _ _ _); k_dflt (first | (refine' pool_set0 ?hk.u37 ?F.u37 ?N.u37 ?U.u37 ?_; (case hk => rfl); (case F => k_asm); (case N => k_asm); (case U => k_updF); k_whole) | (refine' pool_set1 ?hk.u37 ?F.u37 ?N.u37 ?U.u37 ?_; (case hk => rfl); (case F => k_asm); (case N => k_asm); (case U => k_updF); k_whole)); intro h' F' N'; (try dsimp only at N'); (try k_sweep))
  k_with "L30" => (k_here; k_dflt (refine enc_method ?_))
  k_with "L31" => (k_here; (with_reducible show wpAny _ _ (call (Value.builtin "str.encode") [Value.str _ _]) _ _ _); k_dflt (refine' enc_call ?h0.u19 ?h1.u19 ?_; (case h0 => assumption); (case h1 => walk_at "nz om"); k_whole); intro t9 k9)
  k_with "L32" => (k_here; (with_reducible show wpAny _ _ (call (Value.type "bytes") [Value.bytes _ _]) _ _ _); k_dflt (refine' by_call_by ?_; k_whole); intro t9 k9)
  k_with "L33" => (k_here; (with_reducible show wpAny _ _ (call (Value.type "bytes") [Value.int _ _]) _ _ _); k_dflt (refine' by_call_int ?h0.u21 ?h1.u21 ?_; (case h0 => walk_at "nz om"); (case h1 => walk_at "nz om"); k_whole); intro t9 k9)
  k_with "L34" => (k_here; (with_reducible show wpAny _ _ (call (Value.type "bytes") [Value.ref _]) _ _ _); k_dflt (refine' by_call_ba' ?ho.u22 ?hk.u22 ?hz.u22 ?_; (case ho => exact News.get (by k_asm) (by k_mem)); (case hk => with_reducible assumption); (case hz => first | walk_at "nz om" | (walk_at "nz len")); k_whole); intro t9 k9)
  k_with "L35" => (k_here; (with_reducible show wpAny _ _ (call (Value.builtin "isinstance") [Value.ref _, Value.type "str"]) _ _ _); k_dflt (refine' bc_isStr ?X.u23 ?ho.u23 ?_; (case X => k_in); (case ho => exact News.get (by k_asm) (by k_mem)); k_whole); intro t9)
  k_with "L36" => ((rename KBw.bInts _ = _ => q9); rw [← KBw.ints_length, q9]; omega)
  k_with "L37" => (k_here; (with_reducible show wpAny _ _ (call (Value.ref 170) [Value.str _ _]) _ _ _); k_dflt (refine' Ctr.use (c_octets_s _ _ _ _ ?hx.u25 ?hz.u25) ?zB.u25 ?zF.u25 ?zX.u25 ?zN.u25 ?zT.u25 ?zs.u25 ?zf.u25 ?zk.u25 ?zd.u25 ?zu.u25 ?_; (walk_at "nz zz"); (case zs => exact sub_rfl); (case hx => assumption); (case hz => walk_at "nz om"); k_whole); intro r9 l9 h9 tk9 hP F9 N9; obtain ⟨⟨t9, e9⟩, e8⟩ := hP; subst e9; subst e8; (try dsimp only at N9); (try dsimp only); (try k_sweep); (try k_fold))
  k_with "L38" => (k_here; (with_reducible show wpAny _ _ (call (Value.ref 170) [Value.bytes _ _]) _ _ _); k_dflt (refine' Ctr.use (c_octets_b _ _ _ _) ?zB.u26 ?zF.u26 ?zX.u26 ?zN.u26 ?zT.u26 ?zs.u26 ?zf.u26 ?zk.u26 ?zd.u26 ?zu.u26 ?_; (walk_at "nz zz"); (case zs => exact sub_rfl);  k_whole); intro r9 l9 h9 tk9 hP F9 N9; obtain ⟨⟨t9, e9⟩, e8⟩ := hP; subst e9; subst e8; (try dsimp only at N9); (try dsimp only); (try k_sweep); (try k_fold))
  k_with "L39" => (k_here; (with_reducible show wpAny _ _ (call (Value.ref 170) [Value.ref _]) _ _ _); k_dflt (refine' Ctr.use (c_octets_a _ _ _ _ _ ?hk.u27 ?hz.u27) ?zB.u27 ?zF.u27 ?zX.u27 ?zN.u27 ?zT.u27 ?zs.u27 ?zf.u27 ?zk.u27 ?zd.u27 ?zu.u27 ?_; (walk_at "nz zz"); (case zs => exact Pick.sub (by walk_at "nz pick")); (case hk => with_reducible assumption); (case hz => first | walk_at "nz om" | (walk_at "nz len")); k_whole); intro r9 l9 h9 tk9 hP F9 N9; obtain ⟨⟨t9, e9⟩, e8⟩ := hP; subst e9; subst e8; (try dsimp only at N9); (try dsimp only); (try k_sweep); (try k_fold))
  k_with "L40" => (k_dflt (refine' ctrC_def ?k6.u38 ?k7.u38 ?k9.u38 ?kB.u38 ?c2.u38 ?c3.u38 ?c4.u38 ?c5.u38 ?_; (case k6 => (with_unfolding_all rfl)); (case k7 => (with_unfolding_all rfl)); (case k9 => exact rfl); (case kB => exact locs rfl); (case c2 => exact rfl); (case c3 => exact rfl); (case c4 => exact rfl); (case c5 => decide); k_whole))
  k_with "L41" => (k_fill; intro mean mg mb dp un gd env outer base g L s B F X N T hd hu; (try dsimp only))
  k_with "L42" => (walk_at "nz enterC"; walk_at "nz introC"; k_steps)
  k_with "L43" => repeat' (first | (k_unfold; (try dsimp only)) | (k_end; kc_close) | walk1 | (dsimp only; walk1) | (dsimp only; k_unfold; (try dsimp only)) | (leave1; (try dsimp only)) | fail "no step")
  k_with "L44" => ((with_reducible show wpC _ _ _ _ _ _); (fail_if_success (with_reducible show wpC _ _ (call _ _) _ _ _)); refine wpC_any ?_; (try k_fold))
  k_with "L45" => ((with_reducible show wpC _ _ (execs [] _) _ _ _); refine wpC_execs_nil ?_)
  k_with "L46" => ((with_reducible show wpC _ _ (execs (_ :: _) _) _ _ _); refine wpC_execs_cons ?_)
  k_with "L47" => ((with_reducible show wpC _ _ (spliced (backTo _ (starEach [] _))) _ _ _); refine wpC_args_nil ?_)
  k_with "L48" => ((with_reducible show wpC _ _ (spliced (backTo _ (starEach (_ :: _) _))) _ _ _); refine wpC_args_cons ?_)
  k_with "L49" => ((with_reducible show wpC _ _ (callWith _ (Value.type _) _ _ _) _ _ _); first | refine wpC_callWith_type1 ?_ | refine wpC_callWith_type0 ?_)
  k_with "L50" => ((with_reducible show wpC _ _ (callWith _ (Value.builtin _) _ _ _) _ _ _); refine wpC_callWith_builtin1 ?_)
  k_with "L51" => ((with_reducible show wpC _ _ (callWith _ (Value.ref _) _ _ _) _ _ _); k_dflt (refine' wpC_callWith_K (K := NzH.hd.heap_39 _) (h₀ := _) ?hk.u49 ?_; (case hk => k_is)))
  k_with "L52" => ((with_reducible show wpC _ _ (eval (Expr.Call (Expr.Name (Str.ofString "bytearray") _) _ [] _) _) _ _ _); refine wpC_Call ?_; (try k_fold))
  k_with "L53" => ((with_reducible show wpC _ _ (exec (Stmt.Assign [Expr.Name _ _] (Expr.Call (Expr.Name (Str.ofString "bytearray") _) _ _ _) _) _) _ _ _); refine wpC_Assign_Name ?_)
  k_with "L54" => ((with_reducible show wpC _ _ (exec (Stmt.Expr (Expr.Call (Expr.Attribute _ (Str.ofString "append") _) _ _ _) _) _) _ _ _); refine wpC_Expr ?_)
  k_with "L55" => ((with_reducible show wpC _ _ (eval (Expr.Call (Expr.Attribute _ (Str.ofString "append") _) _ _ _) _) _ _ _); refine wpC_MethodCall ?_; (try k_fold))
  k_with "L56" => ((with_reducible show wpC _ _ (exec (Stmt.Assign [Expr.Subscript _ _ _] _ _) _) _ _ _); refine wpC_Assign_Subscript ?_; (try k_fold))
  k_with "L57" => ((with_reducible show wpC _ _ (call (Value.type "bytearray") []) _ _ _); k_dflt (refine' ba_call0 ?F.u55 ?N.u55 ?_; (case F => k_asm); (case N => k_asm); k_whole); intro a9 h9 F9 N9 l9; (try k_lt l9); (try k_sweep))
  k_with "L58" => ((with_reducible show wpC _ _ (call (Value.type "bytearray") [Value.int _ _]) _ _ _); k_dflt (refine' ba_callN ?F.u56 ?N.u56 ?h0.u56 ?h1.u56 ?_; (case F => k_asm); (case N => k_asm); (case h0 => walk_at "nz om"); (case h1 => walk_at "nz om"); k_whole); intro a9 b9 h9 hb9 F9 N9 l9; (try k_lt l9); (try k_sweep))
  k_with "L59" => ((with_reducible show wpC _ _ (call (Value.type "bytearray") [Value.bytes _ _]) _ _ _); k_dflt (refine' ba_callB ?F.u57 ?N.u57 ?h1.u57 ?_; (case F => k_asm); (case N => k_asm); (case h1 => first | walk_at "nz om" | (walk_at "nz size")); k_whole); intro a9 h9 F9 N9 l9; (try k_lt l9); (try k_sweep))
  k_with "L60" => ((with_reducible show wpC _ _ (setItem (Value.ref _) (Value.ref _) (Value.bytes _ _)) _ _ _); k_dflt (refine' bs_store_new ?F.u58 ?N.u58 ?U.u58 ?hk.u58 ?hl.u58 ?h0.u58 ?h1.u58 ?h2.u58 ?h3.u58 ?_; (case F => k_asm); (case N => k_asm); (case U => k_updF); (case hk => with_reducible assumption); (case hl => with_reducible assumption); (case h0 => walk_at "nz om"); (case h1 => first | walk_at "nz om" | (walk_at "nz len")); (case h2 => first | walk_at "nz om" | (walk_at "nz len")); (case h3 => first | walk_at "nz om" | (walk_at "nz len")); k_whole); intro b9 h9 tk9 hb9 F9 N9; (try dsimp only at N9); (try k_sweep))
  k_with "L61" => ((with_reducible show wpC _ _ (call (Value.builtin "bytearray.append") _) _ _ _); k_dflt (refine' ba_append ?F.u59 ?N.u59 ?U.u59 ?hk.u59 ?h0.u59 ?h1.u59 ?h2.u59 ?_; (case F => k_asm); (case N => k_asm); (case U => k_updF); (case hk => with_reducible assumption); (case h0 => walk_at "nz om"); (case h1 => walk_at "nz om"); (case h2 => first | walk_at "nz om" | (walk_at "nz len")); k_whole); intro b9 h9 hb9 F9 N9; (try dsimp only at N9); (try k_sweep))
  k_with "L62" => (k_here; (with_reducible show wpAny _ _ (getMethod (Value.ref _) (Str.ofString "append") _) _ _ _); k_dflt (refine' ba_getMethod ?ho.u60 ?_; (case ho => exact News.get (by k_asm) (by k_mem)); k_whole))
  k_with "L63" => ((with_reducible show wpC _ _ (exec (Stmt.For _ _ _ _ _) _) _ _ _); refine wpC_For' ?_)
  k_with "L64" => (apply turnQ_of; (case F => k_asm); (case S => exact Same.trans (by assumption) ⟨rfl, rfl, rfl⟩))
  k_with "L65" => (k_here; (with_reducible show wpAny _ _ (call (Value.builtin "len") [Value.ref _]) _ _ _); k_dflt (refine' ba_len ?ho.u63 ?hk.u63 ?h2.u63 ?_; (case ho => exact News.get (by k_asm) (by k_mem)); (case hk => with_reducible assumption); (case h2 => first | walk_at "nz om" | (walk_at "nz len")); k_whole))
  k_with "L66" => (k_here; (with_reducible show wpAny _ _ (call (Value.ref 177) [Value.ref _]) _ _ _); k_dflt (refine' CtrR.use (r_cut ?hk.u64 ?hz.u64) ?zB.u64 ?zF.u64 ?zX.u64 ?zN.u64 ?zT.u64 ?zs.u64 ?zf.u64 ?zk.u64 ?zd.u64 ?zu.u64 ?_; (walk_at "nz zz"); (case zs => k_mem); (case hk => with_reducible assumption); (case hz => first | walk_at "nz om" | (walk_at "nz len")); k_whole); intro r9 h9 tk9 hP F9 N9; obtain ⟨b9, t9, e9, hb9⟩ := hP; subst e9; (try dsimp only at N9); (try dsimp only); (try k_sweep); (try k_fold))
  k_with "L67" => (k_here; (with_reducible show wpAny _ _ (call (Value.ref 170) [_]) _ _ _); k_dflt (refine' Ctr.use (OctOf.ctr ?zC.u65 _) ?zB.u65 ?zF.u65 ?zX.u65 ?zN.u65 ?zT.u65 ?zs.u65 ?zf.u65 ?zk.u65 ?zd.u65 ?zu.u65 ?_; (walk_at "nz zz"); (case zC => assumption); (case zs => exact sub_rfl); k_whole); intro r9 l9 h9 tk9 hP F9 N9; obtain ⟨⟨t9, e9⟩, e8⟩ := hP; subst e9; subst e8; (try dsimp only at N9); (try dsimp only); (try k_sweep); (try k_fold))
  k_with "L68" => ((with_reducible show wpC _ _ (exec (Stmt.Assign [Expr.Tuple _ _ _] (Expr.Tuple _ _ _) _) _) _ _ _); first | refine wpC_Assign_Tuple_swapped ?_ | refine wpC_Assign_Tuple ?_)
  k_with "L69" => ((with_reducible show wpC _ _ (eval (Expr.Tuple _ _ _) _) _ _ _); refine wpC_Tuple ?_)
  k_with "L70" => ((with_reducible show wpC _ _ (exec (Stmt.If _ (Stmt.Expr (Expr.Call (Expr.Attribute _ (Str.ofString "append") _) _ _ _) _ :: _) _ _) _) _ _ _); refine wpC_If ?_)
  k_with "L71" => ((with_reducible show wpC _ _ (call (Value.builtin "list.append") _) _ _ _); refine wpC_any ?_; (try dsimp only [List.cons_append, List.nil_append]))
  k_with "L72" => (k_here; k_dflt (refine' xl_name ?F.u70 ?X.u70 ?_; (case F => k_asm); (case X => k_asm); k_whole))
  k_with "L73" => (k_here; k_dflt (refine' xl_init ?F.u71 ?N.u71 ?X.u71 ?C.u71 ?U.u71 ?cl.u71 ?d.u71 ?_; (case F => k_asm); (case N => k_asm); (case X => k_asm); (case C => assumption); (case U => k_updF); (case cl => rfl); (case d => rfl); k_whole); intro h9 t9 F9 N9; (try dsimp only at N9); (try k_sweep))
  k_with "L74" => (k_here; k_dflt (refine' xl_set ?F.u72 ?N.u72 ?X.u72 ?C.u72 ?U.u72 ?cl.u72 ?di.u72 ?d.u72 ?_; (case F => k_asm); (case N => k_asm); (case X => k_asm); (case C => assumption); (case U => k_updF); (case cl => rfl); (case di => rfl); (case d => rfl); k_whole); intro h9 tk9 d9 F9 N9; (try dsimp only at N9); (try k_sweep))
  k_with "L75" => (k_dflt (refine' def_plain ?k6.u73 ?k7.u73 ?k9.u73 ?kB.u73 ?c2.u73 ?c3.u73 ?c4.u73 ?c5.u73 ?X.u73 ?T.u73 ?kg.u73 ?hsz.u73 ?N.u73 ?hr.u73 ?_; (case k6 => (with_unfolding_all rfl)); (case k7 => (with_unfolding_all rfl)); (case k9 => (intro s X; first | exact BindsTo.of_eq rfl | exact binds_K X rfl (by with_unfolding_all rfl) rfl rfl rfl)); (case kB => exact locs rfl); (case c2 => exact rfl); (case c3 => exact rfl); (case c4 => exact rfl); (case c5 => decide); (case X => assumption); (case T => assumption); (case kg => assumption); (case hsz => assumption); (case N => assumption); (case hr => assumption); k_whole))
  k_with "L76" => (k_here; refine raise_rule ?_; (try k_fold))
  k_with "L77" => (k_here; (first | (with_reducible show wpAny _ _ (call (Value.ref 45) [Value.str _ _]) _ _ _) | (with_reducible show wpAny _ _ (call (Value.ref 57) [Value.str _ _]) _ _ _)); k_dflt (refine' x_exc ?C.u75 ?F.u75 ?X.u75 ?N.u75 ?T.u75 ?hr.u75 ?_; (case C => first | exact .inl rfl | exact .inr rfl); (case F => k_asm); (case X => k_asm); (case N => k_asm); (case T => k_asm); (case hr => (simp only [depth_deeper] at *; omega)); k_whole); intro e9 oe9 t9 h9 tk9 F9 N9 l9 hc9 hd9; (try k_sweep))
  k_with "L78" => ((with_reducible show RaisesV _ _ _ _ _); refine' raisesV_raw rfl (turned_refl ?B.u76 ?X.u76 ?T.u76 ?D.u76) ?F.u76 ?N.u76 ?C.u76 ?hs.u76 ?l.u76 ?hc.u76 ?hd.u76 ?x.u76 rfl rfl rfl rfl rfl; (case B => k_asm); (case X => k_asm); (case T => k_asm); (case D => assumption); (case F => k_asm); (case N => k_asm); (case C => first | exact .inl rfl | exact .inr rfl); (case hs => walk_at "nz sub"); (case l => assumption); (case hc => assumption); (case hd => assumption); (case x => walk_at "nz exc"))
  k_with "L79" => exact ⟨rfl, rfl⟩
  k_with "L80" => exact ⟨rfl, rfl, fun ok => by (obtain ⟨o1, o2, o3, o4, o5, o6, o7, o8⟩ := ok; dsimp only [datI] at o8; omega)⟩
  k_with "L81" => ((try dsimp only); refine' endX_of ?F.u79 (turned_refl ?B.u79 ?X.u79 ?T.u79 ?D.u79) ?P.u79 ?N.u79 rfl rfl rfl; (case F => k_asm); (case B => k_asm); (case X => k_asm); (case T => k_asm); (case D => assumption); (try dsimp only [retOf]))
  k_with "L82" => repeat' (first | (k_unfold; (try dsimp only)) | (walk_at "nz raise") | (k_end; kc_close) | walk1 | (dsimp only; walk1) | (dsimp only; k_unfold; (try dsimp only)) | fail "no step")
  k_with "L83" => first | omega | exact ediv_pos (by omega) (by omega) | (refine ediv_small ?_ ?_ ?_ <;> omega)
  k_with "L84" => (k_here; (with_reducible show wpAny _ _ (call (Value.ref 94) [Value.int _ _, Value.int _ _]) _ _ _); k_dflt (refine' Ctr.use (c_rounded _ _ _ _ _ _ ?h0.u82 ?h1.u82) ?zB.u82 ?zF.u82 ?zX.u82 ?zN.u82 ?zT.u82 ?zs.u82 ?zf.u82 ?zk.u82 ?zd.u82 ?zu.u82 ?_; (walk_at "nz zz"); (case zs => exact sub_rfl); (case h0 => walk_at "nz den"); (case h1 => walk_at "nz den"); k_whole); intro r9 l9 h9 tk9 hP F9 N9; obtain ⟨⟨t9, e9⟩, e8⟩ := hP; subst e9; subst e8; (try dsimp only at N9); (try dsimp only); (try k_sweep); (try k_fold))
  k_with "L85" => ((with_reducible rename Turned _ _ _ _ _ _ _ _ _ => Tn5); (have B5 := Turned.below Tn5); (have X5 := Turned.inn Tn5); (have T5 := Turned.top Tn5); (have D5 := Turned.dicts Tn5); (have Tn6 := Turned.trans (by assumption) Tn5))
  k_with "L86" => ((try dsimp only); refine' endX_of ?F.u84 ?Tn.u84 ?P.u84 ?N.u84 rfl rfl rfl; (case F => k_asm); (case Tn => assumption); (try dsimp only [retOf]))
  k_with "L87" => (k_here; (with_reducible show wpAny _ _ (call (Value.ref 154) [Value.int _ _, Value.int _ _, Value.int _ _, Value.int _ _, Value.int _ _]) _ _ _); k_dflt (refine' CtrX.use (c_super _ _ _ _ _ _ _ _ _ _ _ ?a1.u85 ?a2.u85 ?a3.u85 ?a4.u85 ?a5.u85 ?a6.u85 ?a7.u85 ?a8.u85 ?a9.u85 ?a10.u85 _) ?zB.u85 ?zF.u85 ?zX.u85 ?zN.u85 ?zT.u85 ?zXB.u85 ?zTB.u85 ?zD.u85 ?zs.u85 ?zf.u85 ?zk.u85 ?zd.u85 ?zu.u85 ?zq.u85 ?ze.u85; (walk_at "nz zz"); (case zXB => assumption); (case zTB => assumption); (case zD => assumption); (case zs => exact sub_rfl); (case a1 => walk_at "nz om"); (case a2 => walk_at "nz om"); (case a3 => walk_at "nz om"); (case a4 => walk_at "nz om"); (case a5 => walk_at "nz om"); (case a6 => walk_at "nz om"); (case a7 => walk_at "nz om"); (case a8 => walk_at "nz om"); (case a9 => walk_at "nz om"); (case a10 => walk_at "nz om"); k_whole); (case' zq => (intro r9 l9 g9 h9 tk9 hP Tn F9 N9; obtain ⟨ok9, x9, dx9, D9, e9, lt9, lx9, hD9, e8⟩ := hP; subst e9; subst e8; walk_at "nz turned"; (try dsimp only at N9); (try dsimp only); (try k_sweep); (try k_fold))); (case' ze => (intro C9 c9 e9 oe9 T9 oT9 g9 h9 tk9 hE Tn F9 N9 hF9 hT9 eT9 ne9; obtain ⟨e9, e8, nok9⟩ := hE; subst e9; subst e8; walk_at "nz turned"; (try dsimp only at N9); (try k_unfold); (try dsimp only); (try k_sweep); (try k_fold))))
  k_with "L88" => (k_here; k_dflt (refine' caughtX (cl := []) ?zB.u86 ?zXB.u86 ?zTB.u86 ?zD.u86 ?zF.u86 ?zN.u86 ?zFO.u86 ?zTO.u86 ?zeT.u86 ?zne.u86 ?zC.u86 ?zex.u86 ?_; (case zB => k_asm); (case zXB => assumption); (case zTB => assumption); (case zD => assumption); (case zF => k_asm); (case zN => k_asm); (case zFO => assumption); (case zTO => assumption); (case zeT => assumption); (case zne => assumption); (case zC => first | exact .inl rfl | exact .inr rfl); (case zex => k_is); k_whole); intro h9 g9 T9 oe9 oT9 Tn F9 N9 hF9 hT9 eT9 ne9; walk_at "nz turned"; (try k_sweep); (try k_fold))
  k_with "L89" => (k_here; (with_reducible show wpAny _ _ (binaryOp Operator.RShift (Value.int _ _) (Value.int 3 _)) _ _ _); k_dflt (refine' shr3_rule ?h0.u87 ?_; (case h0 => walk_at "nz om"); k_whole))
  k_with "L90" => (k_here; (with_reducible show wpAny _ _ (binaryOp Operator.BitAnd (Value.int _ _) (Value.int 7 _)) _ _ _); k_dflt (refine' and7_rule ?h0.u88 ?_; (case h0 => walk_at "nz om"); k_whole))
  k_with "L91" => (k_here; (with_reducible show wpAny _ _ (binaryOp Operator.LShift (Value.int 1 _) (Value.int _ _)) _ _ _); k_dflt (refine' shl_rule ?h0.u89 ?h1.u89 ?_; (case h0 => walk_at "nz om"); (case h1 => walk_at "nz om"); k_whole))
  k_with "L92" => (k_here; (try dsimp only [List.append_nil, List.cons_append, List.nil_append]); (with_reducible show wpAny _ _ (call (Value.ref 116) [Value.ref _]) _ _ _); k_dflt (refine' Ctr.use (c_most_blocks _ _ _ _ _ _ _ _ _ _ _ _ _ _ _ _ _ _ _ _ _ _ _ _ _ _ _ _ _ _ _ _ _ _ ?h1.u90 ?h2.u90 ?h3.u90 ?h4.u90 ?h5.u90 ?h6.u90 ?h7.u90 ?h8.u90 ?h9.u90 ?h10.u90) ?zB.u90 ?zF.u90 ?zX.u90 ?zN.u90 ?zT.u90 ?zs.u90 ?zf.u90 ?zk.u90 ?zd.u90 ?zu.u90 ?_; (walk_at "nz zz"); (case zs => exact sub_rfl); (case h1 => walk_at "nz om"); (case h2 => walk_at "nz om"); (case h3 => walk_at "nz om"); (case h4 => walk_at "nz om"); (case h5 => walk_at "nz om"); (case h6 => walk_at "nz om"); (case h7 => walk_at "nz om"); (case h8 => walk_at "nz om"); (case h9 => walk_at "nz om"); (case h10 => walk_at "nz om"); k_whole); intro r9 l9 h9 tk9 hP F9 N9; obtain ⟨⟨t9, e9⟩, e8⟩ := hP; subst e9; subst e8; (try dsimp only at N9); (try dsimp only); (try k_sweep); (try k_fold))
  k_with "L93" => (k_here; (with_reducible show wpAny _ _ (getMethod (Value.ref _) (Str.ofString "most_blocks") _) _ _ _); k_dflt (refine' sm_most_blocks ?F.u91 ?X.u91 ?N.u91 ?h1.u91 ?h2.u91 ?hD.u91 ?_; (case F => k_asm); (case X => k_asm); (case N => k_asm); (case h1 => k_mem); (case h2 => k_mem); (case hD => assumption); k_whole))
  k_with "L94" => (k_here; (with_reducible show wpAny _ _ (getMethod (Value.ref _) (Str.ofString "most_size") _) _ _ _); k_dflt (refine' sm_most_size ?F.u92 ?X.u92 ?N.u92 ?h1.u92 ?h2.u92 ?hD.u92 ?_; (case F => k_asm); (case X => k_asm); (case N => k_asm); (case h1 => k_mem); (case h2 => k_mem); (case hD => assumption); k_whole))
  k_with "L95" => (k_here; (with_reducible show wpAny _ _ (getMethod (Value.ref _) (Str.ofString "words") _) _ _ _); k_dflt (refine' sm_words ?F.u93 ?X.u93 ?N.u93 ?h1.u93 ?h2.u93 ?hD.u93 ?_; (case F => k_asm); (case X => k_asm); (case N => k_asm); (case h1 => k_mem); (case h2 => k_mem); (case hD => assumption); k_whole))
  k_with "L96" => (k_here; (with_reducible show wpAny _ _ (getMethod (Value.ref _) (Str.ofString "octets") _) _ _ _); k_dflt (refine' sm_octets ?F.u94 ?X.u94 ?N.u94 ?h1.u94 ?h2.u94 ?hD.u94 ?_; (case F => k_asm); (case X => k_asm); (case N => k_asm); (case h1 => k_mem); (case h2 => k_mem); (case hD => assumption); k_whole))
  k_with "L97" => (k_here; (with_reducible show wpAny _ _ (getMethod (Value.ref _) (Str.ofString "row_of") _) _ _ _); k_dflt (refine' sm_row_of ?F.u95 ?X.u95 ?N.u95 ?h1.u95 ?h2.u95 ?hD.u95 ?_; (case F => k_asm); (case X => k_asm); (case N => k_asm); (case h1 => k_mem); (case h2 => k_mem); (case hD => assumption); k_whole))
  k_with "L98" => (k_here; (with_reducible show wpAny _ _ (getMethod (Value.ref _) (Str.ofString "bit_of") _) _ _ _); k_dflt (refine' sm_bit_of ?F.u96 ?X.u96 ?N.u96 ?h1.u96 ?h2.u96 ?hD.u96 ?_; (case F => k_asm); (case X => k_asm); (case N => k_asm); (case h1 => k_mem); (case h2 => k_mem); (case hD => assumption); k_whole))
  k_with "L99" => (k_here; (with_reducible show wpAny _ _ (getAttr (Value.ref _) (Str.ofString "data_start") _) _ _ _); k_dflt (refine' sa_data ?F.u97 ?X.u97 ?N.u97 ?h1.u97 ?h2.u97 ?hD.u97 ?_; (case F => k_asm); (case X => k_asm); (case N => k_asm); (case h1 => k_mem); (case h2 => k_mem); (case hD => assumption); k_whole); intro t9)
  k_with "L100" => (k_here; (with_reducible show wpAny _ _ (getAttr (Value.ref _) (Str.ofString "block") _) _ _ _); k_dflt (refine' sa_block ?F.u98 ?X.u98 ?N.u98 ?h1.u98 ?h2.u98 ?hD.u98 ?_; (case F => k_asm); (case X => k_asm); (case N => k_asm); (case h1 => k_mem); (case h2 => k_mem); (case hD => assumption); k_whole); intro t9)
  k_with "L101" => (k_here; (try dsimp only [List.append_nil, List.cons_append, List.nil_append]); (with_reducible show wpAny _ _ (call (Value.ref 130) [Value.ref _]) _ _ _); k_dflt (refine' CtrN.use (n_words ?hD.u99 ?h1.u99 ?h2.u99 ?h3.u99 ?h4.u99 ?h5.u99 ?h6.u99 ?h7.u99 ?h8.u99 ?h9.u99 ?h10.u99) ?zB.u99 ?zF.u99 ?zX.u99 ?zN.u99 ?zT.u99 ?zs.u99 ?zf.u99 ?zk.u99 ?zd.u99 ?zu.u99 ?_; (walk_at "nz zz"); (case zs => exact sub_cons (by k_mem) (sub_cons (by k_mem) (fun _ h => nomatch h))); (case hD => assumption); (case h1 => walk_at "nz om"); (case h2 => walk_at "nz om"); (case h3 => walk_at "nz om"); (case h4 => walk_at "nz om"); (case h5 => walk_at "nz om"); (case h6 => walk_at "nz om"); (case h7 => walk_at "nz om"); (case h8 => walk_at "nz om"); (case h9 => walk_at "nz om"); (case h10 => walk_at "nz om"); k_whole); intro r9 nw9 h9 tk9 hP hlt F9 N9; obtain ⟨fa9, u1, u2, u3, u4, u5, u6, u7, u8, u9, n9, e9, e8⟩ := hP; subst e9; subst e8; (have lt9 := hlt _ (List.mem_singleton.mpr rfl)); clear hlt; (try k_lt lt9); (try dsimp only [List.cons_append, List.nil_append] at N9); (try dsimp only); (try k_sweep); (try k_fold))
  k_with "L102" => (k_here; (try dsimp only [List.append_nil, List.cons_append, List.nil_append]); (with_reducible show wpAny _ _ (call (Value.ref 87) [Value.ref _, Value.int _ _, Value.int _ _]) _ _ _); k_dflt (refine' CtrU.use (u_put_word ?hb.u100 ?h0.u100 ?h1.u100 ?h2.u100 ?h3.u100 ?h4.u100) ?zB.u100 ?zF.u100 ?zX.u100 ?zN.u100 ?zT.u100 ?zs.u100 ?zf.u100 ?zk.u100 ?zd.u100 ?zu.u100 ?_; (walk_at "nz zz"); (case zs => k_updF); (case hb => with_reducible assumption); (case h0 => walk_at "nz om"); (case h1 => first | walk_at "nz om" | (walk_at "nz len")); (case h2 => first | walk_at "nz om" | (walk_at "nz len")); (case h3 => first | walk_at "nz om" | (walk_at "nz side")); (case h4 => first | walk_at "nz om" | (walk_at "nz side")); k_whole); intro r9 o9 h9 tk9 hP F9 N9; obtain ⟨e9, b9, e8, hb9⟩ := hP; subst e9; subst e8; (try dsimp only at N9); (try dsimp only); (try k_sweep); (try k_fold))
  k_with "L103" => first | omega | exact ediv_pos (by omega) (by omega) | (refine ediv_small ?_ ?_ ?_ <;> omega) | (refine Int.le_of_lt (ediv_small ?_ ?_ ?_) <;> omega)
  k_with "L104" => (k_here; (with_reducible show wpAny _ _ (binaryOp Operator.FloorDiv (Value.int _ _) (Value.int _ _)) _ _ _); k_dflt (refine' div_rule ?h0.u102 ?h1.u102 ?_; (case h0 => walk_at "nz den"); (case h1 => walk_at "nz den"); k_whole))
  k_with "L105" => (k_fold; first | with_reducible refine isTrue_and_nil ?_ | with_reducible refine isTrue_or_nil ?_ | with_reducible refine isTrue_and ?_ | with_reducible refine isTrue_or ?_)
  k_with "L106" => ((with_reducible show wpAny _ _ (exec (Stmt.Try _ (_ :: _) _ [] _) (envOfC _ _ _ _ _)) _ _ _); refine wpAny_Try_except ?_)
  k_with "L107" => (k_here; (first | (with_reducible show wpAny _ _ (call (Value.ref 45) [Value.str _ _]) _ _ _) | (with_reducible show wpAny _ _ (call (Value.ref 57) [Value.str _ _]) _ _ _)); k_dflt (refine' x_exc ?C.u105 ?F.u105 ?X.u105 ?N.u105 ?T.u105 ?hr.u105 ?_; (case C => first | exact .inl rfl | exact .inr rfl); (case F => k_asm); (case X => k_asm); (case N => k_asm); (case T => k_asm); (case hr => first | exact room1 (by assumption) (by decide) | (simp only [depth_deeper] at *; omega)); k_whole); intro e9 oe9 t9 h9 tk9 F9 N9 l9 hc9 hd9; (try k_sweep))
  k_with "L108" => (k_here; k_dflt (refine' caughtC ?zB.u106 ?zXB.u106 ?zTB.u106 ?zD.u106 ?zF.u106 ?zN.u106 ?zFO.u106 ?zTO.u106 ?zeT.u106 ?zne.u106 ?zC.u106 ?zex.u106 ?_; (case zB => k_asm); (case zXB => assumption); (case zTB => assumption); (case zD => assumption); (case zF => k_asm); (case zN => k_asm); (case zFO => assumption); (case zTO => assumption); (case zeT => assumption); (case zne => assumption); (case zC => first | exact .inl rfl | exact .inr rfl); (case zex => k_is); k_whole); intro h9 g9 T9 oe9 oT9 Tn F9 N9 hF9 hT9 eT9 ne9; walk_at "nz turned"; (try k_sweep); (try k_fold))
  k_with "L109" => ((with_reducible show RaisesV _ _ _ _ _); refine' raisesV_raw rfl ?Tn.u107 ?F.u107 ?N.u107 ?C.u107 ?hs.u107 ?l.u107 ?hc.u107 ?hd.u107 ?x.u107 rfl rfl rfl rfl rfl; (case Tn => assumption); (case F => k_asm); (case N => k_asm); (case hs => walk_at "nz sub"); (case l => assumption); (case hc => assumption); (case C => first | exact .inl rfl | exact .inr rfl); (case hd => assumption); (case x => walk_at "nz exc"))
  k_with "L110" => exact ⟨rfl, fun ok => by (obtain ⟨o1, o2, o3, o4⟩ := ok; first | omega | contradiction)⟩
  k_with "L111" => (k_here; (try dsimp only [List.append_nil, List.cons_append, List.nil_append]); (with_reducible show wpAny _ _ (call (Value.ref 73) [Value.bytes _ _, Value.int _ _]) _ _ _); k_dflt (refine' Ctr.use (c_word_b _ _ _ _ _ _ _ ?hb.u109 ?h0.u109 ?h1.u109 ?h2.u109) ?zB.u109 ?zF.u109 ?zX.u109 ?zN.u109 ?zT.u109 ?zs.u109 ?zf.u109 ?zk.u109 ?zd.u109 ?zu.u109 ?_; (walk_at "nz zz"); (case zs => exact sub_rfl); (case hb => with_reducible assumption); (case h0 => walk_at "nz om"); (case h1 => walk_at "nz om"); (case h2 => walk_at "nz om"); k_whole); intro r9 l9 h9 tk9 hP F9 N9; obtain ⟨⟨t9, e9⟩, lo9, hi9, e8⟩ := hP; subst e9; subst e8; (try dsimp only at N9); (try dsimp only); (try k_sweep); (try k_fold))
  k_with "L112" => (k_here; (with_reducible show wpAny _ _ (subscriptTail _ _ (Value.ref _) (Value.int _ _)) _ _ _); kri_at)
  k_with "L113" => (k_here; (with_reducible rename List.length _ < 36 => h9); first | refine ite_pos (by omega) ?_ | refine ite_neg (by omega) ?_)
  k_with "L114" => exact rd_room (by with_reducible assumption) (by with_reducible assumption)
  k_with "L115" => (k_here; (with_reducible show wpAny _ _ (call (Value.ref 163) [Value.bytes _ _]) _ _ _); k_dflt (refine' CtrX.use (c_read _ _ _ _ _ ?a1.u113 ?a2.u113) ?zB.u113 ?zF.u113 ?zX.u113 ?zN.u113 ?zT.u113 ?zXB.u113 ?zTB.u113 ?zD.u113 ?zs.u113 ?zf.u113 ?zk.u113 ?zd.u113 ?zu.u113 ?zq.u113 ?ze.u113; (walk_at "nz zz"); (case zXB => assumption); (case zTB => assumption); (case zD => assumption); (case zs => exact sub_rfl); (case a1 => with_reducible assumption); (case a2 => walk_at "nz om"); k_whole); (case' zq => (intro r9 l9 g9 h9 tk9 hP Tn F9 N9; obtain ⟨ok9, x9, dx9, D9, e9, lt9, lx9, hD9, e8⟩ := hP; subst e9; subst e8; walk_at "nz turned"; (try dsimp only at N9); (try dsimp only); (try k_sweep); (try k_fold))); (case' ze => (intro C9 c9 e9 oe9 T9 oT9 g9 h9 tk9 hE Tn F9 N9 hF9 hT9 eT9 ne9; obtain ⟨e9, nok9⟩ := hE; subst e9; walk_at "nz turned"; (try dsimp only at N9); (try k_unfold); (try dsimp only); (try k_sweep); (try k_fold))))
  k_with "L116" => (intro y hy; (try simp only [if_neg hy]); (repeat' split) <;> first | rfl | (subst_vars; rfl) | (exfalso; simp_all (config := { decide := true })))
  k_with "L117" => (k_here; (with_reducible show wpAny _ _ (binaryOp Operator.Add (Value.ref _) (Value.ref _)) _ _ _); k_dflt (refine' nz_add ?F.u115 ?N.u115 ?hl.u115 ?hb.u115 ?hsz.u115 ?_; (case F => k_asm); (case N => k_asm); (case hl => k_mem); (case hb => k_mem); (case hsz => first | (walk_at "nz sz") | (simp; omega)); k_whole); intro a9 h9 F9 N9 l9; (try k_lt l9); (try k_sweep))
  k_with "L118" => (k_here; (with_reducible show wpAny _ _ (getMethod (Value.str _ _) (Str.ofString "encode") _) _ _ _); k_dflt (refine enc_method ?_))
  k_with "L119" => (k_here; (with_reducible show wpAny _ _ (eval (Expr.ListComp (Expr.Subscript (Expr.Name (Str.ofString "pieces") _) _ _) _ _ _) _) _ _ _); k_dflt (refine ListComp_M (F₀ := by k_asm) (by with_unfolding_all rfl) (by decide) (by rfl) (by decide) (by rfl) ?_))
  k_with "L120" => (k_here; (with_reducible show wpAny _ _ (subscriptTail (Expr.Name (Str.ofString "pieces") _) _ (Value.ref _) (Value.int _ _)) _ _ _); k_dflt (refine' piece_tail ?hl.u118 ?h0.u118 ?h1.u118 ?h2.u118 ?_ ?hs.u118; (case hl => exact News.isList (by k_asm) (by k_mem)); (case h0 => walk_at "nz om"); (case h1 => (simp only [List.size_toArray, List.length_cons, List.length_nil]; omega)); (case h2 => walk_at "nz om"); (case hs => with_unfolding_all rfl); k_whole))
  k_with "L121" => (k_here; (with_reducible show wpAny _ _ (call (Value.builtin "str.join") [Value.str _ _, Value.ref _]) _ _ _); k_dflt (refine' join_good ?hl.u119 ?hi.u119 ?hg.u119 ?hn.u119 ?he.u119 ?_; (case hl => exact News.isList (by k_asm) (by k_mem)); (case hi => assumption); (case hg => assumption); (case hn => walk_at "nz om"); (case he => rfl); k_whole); intro x9 t9 k9 hx9)
  k_with "L122" => (k_here; (with_reducible show wpAny _ _ (binaryOp Operator.Add (Value.str _ _) (Value.str _ _)) _ _ _); k_dflt (refine' add_good ?hx.u120 ?hy.u120 ?hn.u120 ?_; (case hx => assumption); (case hy => first | assumption | exact good_slice (by assumption) (by assumption) | exact good_lit (n := 1) (by decide +kernel) | exact good_lit (n := 16) (by decide +kernel)); (case hn => decide); k_whole); intro x9 t9 k9 hx9)
  k_with "L123" => (k_here; (try dsimp only [List.append_nil, List.cons_append, List.nil_append]); (with_reducible show wpAny _ _ (call (Value.ref 212) [Value.ref _, Value.int _ _]) _ _ _); k_dflt (refine' CtrU.use (u_take ?hp.u121 ?hk.u121 ?h0.u121 ?h1.u121) ?zB.u121 ?zF.u121 ?zX.u121 ?zN.u121 ?zT.u121 ?zs.u121 ?zf.u121 ?zk.u121 ?zd.u121 ?zu.u121 ?_; (walk_at "nz zz"); (case zs => k_updF); (case hp => with_reducible assumption); (case hk => walk_at "nz om"); (case h0 => first | walk_at "nz om" | decide); (case h1 => first | walk_at "nz om" | decide); k_whole); intro r9 o9 h9 tk9 hP F9 N9; obtain ⟨⟨dg9, t9, e9, lo9, hi9⟩, hp9⟩ := hP; subst e9; (try simp only [Int.reduceToNat, Int.reducePow] at hi9); (try dsimp only at N9); (try dsimp only); (try k_sweep); (try k_fold))
  k_with "L124" => exact pt_room (by with_reducible assumption) (by with_reducible assumption) (by with_reducible assumption) (by with_reducible assumption)
  k_with "L125" => ((show (_ : Addr × Obj) ∈ (_ : List (Addr × Obj))); with_reducible assumption)
  k_with "L126" => (k_here; (try dsimp only [List.append_nil, List.cons_append, List.nil_append]); (with_reducible show wpAny _ _ (call (Value.ref 177) [Value.ref _]) _ _ _); k_dflt (refine' CtrR.use (r_cut ?hk.u124 ?hz.u124) ?zB.u124 ?zF.u124 ?zX.u124 ?zN.u124 ?zT.u124 ?zs.u124 ?zf.u124 ?zk.u124 ?zd.u124 ?zu.u124 ?_; (walk_at "nz zz"); (case zs => k_mem); (case hk => with_reducible assumption); (case hz => first | walk_at "nz om" | (walk_at "nz len")); k_whole); intro r9 h9 tk9 hP F9 N9; obtain ⟨b9, t9, e9, hb9⟩ := hP; subst e9; (try dsimp only at N9); (try dsimp only); (try k_sweep); (try k_fold))
  k_with "L127" => (k_here; (try dsimp only [List.append_nil, List.cons_append, List.nil_append]); (with_reducible show wpAny _ _ (call (Value.ref 170) [Value.ref _]) _ _ _); k_dflt (refine' CtrR.use (r_oct ?hk.u125 ?hz.u125) ?zB.u125 ?zF.u125 ?zX.u125 ?zN.u125 ?zT.u125 ?zs.u125 ?zf.u125 ?zk.u125 ?zd.u125 ?zu.u125 ?_; (walk_at "nz zz"); (case zs => k_mem); (case hk => with_reducible assumption); (case hz => first | walk_at "nz om" | (walk_at "nz len")); k_whole); intro r9 h9 tk9 hP F9 N9; obtain ⟨t9, e9⟩ := hP; subst e9; (try dsimp only at N9); (try dsimp only); (try k_sweep); (try k_fold))
  k_with "L128" => ((with_reducible show wpC _ _ (callWith _ (Value.ref _) _ _ _) _ _ _); k_dflt (refine' wpC_callWith_X ?hX.u126 ?hk.u126 ?_; (case hX => assumption); (case hk => k_is)))
  k_with "L129" => ((with_reducible show wpC _ _ (isTrue (Expr.BoolOp BoolOp.Or _ _) _ _) _ _ _); (try k_fold); first | refine wpC_isTrue_or_nil ?_ | refine wpC_isTrue_or ?_)
  k_with "L130" => ((with_reducible show wpC _ _ (exec (Stmt.If (Expr.BoolOp BoolOp.Or (Expr.Compare (Expr.Call (Expr.Name (Str.ofString "parts_of") _) _ _ _) _ _ _ :: _) _) _ _ _) _) _ _ _); refine wpC_If ?_)
  k_with "L131" => ((with_reducible show wpC _ _ (exec (Stmt.If (Expr.BoolOp BoolOp.Or (Expr.Compare (Expr.Call (Expr.Name (Str.ofString "half_at") _) _ _ _) _ _ _ :: _) _) _ _ _) _) _ _ _); refine wpC_If ?_)
  k_with "L132" => ((with_reducible show wpC _ _ (isTrue (Expr.Compare (Expr.Call (Expr.Name (Str.ofString "parts_of") _) _ _ _) _ _ _) _ _) _ _ _); refine wpC_isTrue_Compare1 ?_)
  k_with "L133" => ((with_reducible show wpC _ _ (isTrue (Expr.Compare (Expr.Call (Expr.Name (Str.ofString "name_in") _) _ _ _) _ _ _) _ _) _ _ _); refine wpC_isTrue_Compare1 ?_)
  k_with "L134" => ((with_reducible show wpC _ _ (exec (Stmt.Return (some (Expr.Compare (Expr.Call (Expr.Name (Str.ofString "name_in") _) _ _ _) _ _ _)) _) _) _ _ _); refine wpC_Return ?_)
  k_with "L135" => ((with_reducible show wpC _ _ (eval (Expr.Compare (Expr.Call (Expr.Name (Str.ofString "name_in") _) _ _ _) _ _ _) _) _ _ _); refine wpC_Compare1 ?_)
  k_with "L136" => ((with_reducible show wpC _ _ (eval (Expr.BinOp (Expr.BinOp (Expr.Subscript (Expr.Call _ _ _ _) _ _) _ _ _) _ _ _) _) _ _ _); refine wpC_BinOp ?_)
  k_with "L137" => ((with_reducible show wpC _ _ (eval (Expr.BinOp (Expr.Subscript (Expr.Call _ _ _ _) _ _) _ _ _) _) _ _ _); refine wpC_BinOp ?_)
  k_with "L138" => ((with_reducible show wpC _ _ (eval (Expr.Subscript (Expr.Call (Expr.Name (Str.ofString "row_for") _) _ _ _) _ _) _) _ _ _); refine wpC_Subscript ?_)
  k_with "L139" => ((with_reducible show wpC _ _ (eval (Expr.Call (Expr.Name (Str.ofString "_law_parts") _) _ [] _) _) _ _ _); refine wpC_Call ?_; (try k_fold))
  k_with "L140" => ((with_reducible show wpC _ _ (exec (Stmt.Assign [Expr.Name _ _] (Expr.Call (Expr.Name (Str.ofString "_law_parts") _) _ _ _) _) _) _ _ _); refine wpC_Assign_Name ?_)
  k_with "L141" => ((with_reducible show wpC _ _ (eval (Expr.Call (Expr.Name (Str.ofString "row_for") _) _ [] _) _) _ _ _); refine wpC_Call ?_; (try k_fold))
  k_with "L142" => ((with_reducible show wpC _ _ (exec (Stmt.Assign [Expr.Name _ _] (Expr.Call (Expr.Name (Str.ofString "row_for") _) _ _ _) _) _) _ _ _); refine wpC_Assign_Name ?_)
  k_with "L143" => ((with_reducible show wpC _ _ (eval (Expr.Call (Expr.Name (Str.ofString "parts_of") _) _ [] _) _) _ _ _); refine wpC_Call ?_; (try k_fold))
  k_with "L144" => ((with_reducible show wpC _ _ (exec (Stmt.Assign [Expr.Name _ _] (Expr.Call (Expr.Name (Str.ofString "parts_of") _) _ _ _) _) _) _ _ _); refine wpC_Assign_Name ?_)
  k_with "L145" => ((with_reducible show wpC _ _ (eval (Expr.Call (Expr.Name (Str.ofString "name_in") _) _ [] _) _) _ _ _); refine wpC_Call ?_; (try k_fold))
  k_with "L146" => ((with_reducible show wpC _ _ (exec (Stmt.Assign [Expr.Name _ _] (Expr.Call (Expr.Name (Str.ofString "name_in") _) _ _ _) _) _) _ _ _); refine wpC_Assign_Name ?_)
  k_with "L147" => (simp only [List.length_append, List.length_cons, List.length_nil, List.length_replicate, List.length_map, List.length_take, List.length_drop]; omega)
  k_with "L148" => (k_here; (with_reducible show wpAny _ _ (binaryOp Operator.Add (Value.bytes _ _) (Value.bytes _ _)) _ _ _); k_dflt (refine' add_gen ?hb.u146 ?hc.u146 ?hz.u146 ?_; (case hb => first | with_reducible assumption | kba_ints2 | kba_ints); (case hc => first | with_reducible assumption | kba_ints2 | kba_ints); (case hz => first | walk_at "nz om" | (simp only [List.length_append, List.length_replicate, List.length_cons, List.length_nil, List.length_take, List.length_drop, List.length_map]; omega)); k_whole); intro b9 t9 k9 hb9)
  k_with "L149" => (k_here; (with_reducible show wpAny _ _ (call (Value.type "bytes") [Value.int _ _]) _ _ _); k_dflt (refine' by_zeros ?h0.u147 ?h1.u147 ?_; (case h0 => walk_at "nz om"); (case h1 => walk_at "nz om"); k_whole); intro b9 t9 k9 hb9)
  k_with "L150" => (k_here; (with_reducible show wpAny _ _ (compareOp CmpOp.NotEq (Value.ref _) (Value.ref _)) _ _ _); k_dflt (refine' ne_bytes_same ?ha.u148 ?hb.u148 ?h1.u148 ?h2.u148 ?hu.u148 ?_; (case ha => exact News.isList (by k_asm) (by k_mem)); (case hb => exact News.isList (by k_asm) (by k_mem)); (case h1 => assumption); (case h2 => assumption); (case hu => (simp only [units_deeper] at *; omega)); k_whole))
  k_with "L151" => ((try dsimp only [List.append_nil, List.cons_append, List.nil_append]); (with_reducible show wpC _ _ (call (Value.ref 224) [Value.bytes _ _]) _ _ _); k_dflt (refine' CtrC.use (c_law_parts _ _ _ _ _ ?hb.u149 ?hz.u149) ?zB.u149 ?zF.u149 ?zX.u149 ?zN.u149 ?zT.u149 ?zs.u149 ?zf.u149 ?zk.u149 ?zd.u149 ?zu.u149 ?_; (walk_at "nz zz"); (case zs => exact sub_rfl); (case hb => with_reducible assumption); (case hz => walk_at "nz om"); k_whole); intro r9 l9 h9 tk9 hP F9 N9; obtain ⟨fa9, vs9, n9, e9, hv9, e8, lt9⟩ := hP; subst e9; subst e8; (try k_lt lt9); (try dsimp only at N9); (try dsimp only); (try k_sweep); (try k_fold))
  k_with "L152" => ((try dsimp only [List.append_nil, List.cons_append, List.nil_append]); (with_reducible show wpC _ _ (call (Value.ref 184) [Value.str _ _]) _ _ _); k_dflt (refine' CtrC.use (c_parts_of _ _ _ _ _ ?hv.u150 ?hb.u150 ?hz.u150) ?zB.u150 ?zF.u150 ?zX.u150 ?zN.u150 ?zT.u150 ?zs.u150 ?zf.u150 ?zk.u150 ?zd.u150 ?zu.u150 ?_; (walk_at "nz zz"); (case zs => exact sub_rfl); (case hv => with_reducible assumption); (case hb => with_reducible assumption); (case hz => walk_at "nz om"); k_whole); intro r9 l9 h9 tk9 hP F9 N9; obtain ⟨fa9, vs9, n9, e9, hv9, e8, lt9⟩ := hP; subst e9; subst e8; (try k_lt lt9); (try dsimp only at N9); (try dsimp only); (try k_sweep); (try k_fold))
  k_with "L153" => ((try dsimp only [List.append_nil, List.cons_append, List.nil_append]); (with_reducible show wpC _ _ (call (Value.ref 184) [Value.bytes _ _]) _ _ _); k_dflt (refine' CtrC.use (c_parts_of _ _ _ _ _ ?hv.u151 ?hb.u151 ?hz.u151) ?zB.u151 ?zF.u151 ?zX.u151 ?zN.u151 ?zT.u151 ?zs.u151 ?zf.u151 ?zk.u151 ?zd.u151 ?zu.u151 ?_; (walk_at "nz zz"); (case zs => exact sub_rfl); (case hv => exact octB); (case hb => with_reducible assumption); (case hz => walk_at "nz om"); k_whole); intro r9 l9 h9 tk9 hP F9 N9; obtain ⟨fa9, vs9, n9, e9, hv9, e8, lt9⟩ := hP; subst e9; subst e8; (try k_lt lt9); (try dsimp only at N9); (try dsimp only); (try k_sweep); (try k_fold))
  k_with "L154" => ((try dsimp only [List.append_nil, List.cons_append, List.nil_append]); (with_reducible show wpC _ _ (call (Value.ref 184) [Value.ref _]) _ _ _); k_dflt (refine' CtrC.use (c_parts_of_a _ _ _ _ _ ?hm.u152 ?hb.u152 ?hz.u152) ?zB.u152 ?zF.u152 ?zX.u152 ?zN.u152 ?zT.u152 ?zs.u152 ?zf.u152 ?zk.u152 ?zd.u152 ?zu.u152 ?_; (walk_at "nz zz"); (case zs => exact sub_rfl); (case hm => k_mem); (case hb => with_reducible assumption); (case hz => walk_at "nz om"); k_whole); intro r9 l9 h9 tk9 hP F9 N9; obtain ⟨fa9, vs9, n9, e9, hv9, e8, lt9⟩ := hP; subst e9; subst e8; (try k_lt lt9); (try dsimp only at N9); (try dsimp only); (try k_sweep); (try k_fold))
  k_with "L155" => ((try dsimp only [List.append_nil, List.cons_append, List.nil_append]); (with_reducible show wpC _ _ (call (Value.ref 191) [Value.int _ _, Value.bytes _ _]) _ _ _); k_dflt (refine' CtrC.use (c_row_for _ _ _ _ _ _ _ ?hb.u153 ?h0.u153 ?h1.u153 ?h2.u153) ?zB.u153 ?zF.u153 ?zX.u153 ?zN.u153 ?zT.u153 ?zs.u153 ?zf.u153 ?zk.u153 ?zd.u153 ?zu.u153 ?_; (walk_at "nz zz"); (case zs => exact sub_rfl); (case hb => first | (with_reducible assumption) | exact rfl); (case h0 => walk_at "nz om"); (case h1 => walk_at "nz om"); (case h2 => first | walk_at "nz om" | decide); k_whole); intro r9 l9 h9 tk9 hP F9 N9; obtain ⟨⟨b9, t9, e9, hb9⟩, e8⟩ := hP; subst e9; subst e8; (replace hb9 : KBw.bInts b9 = rowL _ _ := hb9); (have hl9 := lenRow hb9 (by first | assumption | decide)); (try dsimp only at N9); (try dsimp only); (try k_sweep); (try k_fold))
  k_with "L156" => ((try dsimp only [List.append_nil, List.cons_append, List.nil_append]); (with_reducible show wpC _ _ (call (Value.ref 198) [Value.bytes _ _]) _ _ _); k_dflt (refine' CtrC.use (c_name_in _ _ _ _ _ ?hb.u154 ?h1.u154) ?zB.u154 ?zF.u154 ?zX.u154 ?zN.u154 ?zT.u154 ?zs.u154 ?zf.u154 ?zk.u154 ?zd.u154 ?zu.u154 ?_; (walk_at "nz zz"); (case zs => exact sub_rfl); (case hb => first | (with_reducible assumption)); (case h1 => first | exact rowL_length (by assumption) | rfl | decide); k_whole); intro r9 l9 h9 tk9 hP F9 N9; obtain ⟨⟨b9, t9, e9, hb9⟩, e8⟩ := hP; subst e9; subst e8; (try dsimp only at N9); (try dsimp only); (try k_sweep); (try k_fold))
  k_with "L157" => (k_here; (try dsimp only [List.append_nil, List.cons_append, List.nil_append]); (with_reducible show wpAny _ _ (call (Value.ref 66) [Value.bytes _ _, Value.int _ _]) _ _ _); k_dflt (refine' Ctr.use (c_half_b _ _ _ _ _ _ _ ?hb.u155 ?h0.u155 ?h1.u155 ?h2.u155) ?zB.u155 ?zF.u155 ?zX.u155 ?zN.u155 ?zT.u155 ?zs.u155 ?zf.u155 ?zk.u155 ?zd.u155 ?zu.u155 ?_; (walk_at "nz zz"); (case zs => exact sub_rfl); (case hb => with_reducible assumption); (case h0 => walk_at "nz om"); (case h1 => walk_at "nz om"); (case h2 => walk_at "nz om"); k_whole); intro r9 l9 h9 tk9 hP F9 N9; obtain ⟨⟨t9, e9⟩, lo9, hi9, e8⟩ := hP; subst e9; subst e8; (try dsimp only at N9); (try dsimp only); (try k_sweep); (try k_fold))
  k_with "L158" => (k_here; (try dsimp only [List.append_nil, List.cons_append, List.nil_append]); (with_reducible show wpAny _ _ (call (Value.ref 177) [Value.bytes _ _]) _ _ _); k_dflt (refine' Ctr.use (c_cut_b _ _ _ _ _ ?hk.u156 ?hz.u156) ?zB.u156 ?zF.u156 ?zX.u156 ?zN.u156 ?zT.u156 ?zs.u156 ?zf.u156 ?zk.u156 ?zd.u156 ?zu.u156 ?_; (walk_at "nz zz"); (case zs => exact sub_rfl); (case hk => with_reducible assumption); (case hz => first | walk_at "nz om" | (walk_at "nz len")); k_whole); intro r9 l9 h9 tk9 hP F9 N9; obtain ⟨⟨b9, t9, e9, hb9⟩, e8⟩ := hP; subst e9; subst e8; (try dsimp only at N9); (try dsimp only); (try k_sweep); (try k_fold))
  k_with "L159" => ((with_reducible show wpAny _ _ (binaryOp Operator.Pow (Value.int 2 _) (Value.int 24 _)) _ _ _); refine pow24 ?_)
  k_with "L160" => (k_here; (with_reducible show wpAny _ _ (call (Value.type "list") [Value.ref _]) _ _ _); k_dflt (refine' list_ba ?F.u158 ?N.u158 ?hh.u158 ?hm.u158 ?hk.u158 ?hz.u158 ?_; (case F => k_asm); (case N => k_asm); (case hh => exact rfl); (case hm => k_mem); (case hk => with_reducible assumption); (case hz => first | walk_at "nz om" | (walk_at "nz len")); k_whole); intro l9 vs9 n9 h9 tk9 hi9 F9 N9 lt9; (try k_lt lt9); (try k_sweep))
  k_with "L161" => ((with_reducible show wpC _ _ (call (Value.type "bytearray") [Value.ref _]) _ _ _); k_dflt (refine' ba_callL ?F.u159 ?N.u159 ?hl.u159 ?hi.u159 ?hr.u159 ?h1.u159 ?_; (case F => k_asm); (case N => k_asm); (case hl => exact News.isList (by k_asm) (by k_mem)); (case hi => assumption); (case hr => decide +kernel); (case h1 => decide +kernel); k_whole); intro a9 b9 h9 hb9 F9 N9 l9; (replace hb9 : KBw.bInts b9 = [9, 9, 9, 9, 9, 9, 9, 9, 9] := hb9); (try k_lt l9); (try k_sweep))
  k_with "L162" => (k_here; (try dsimp only [List.append_nil, List.cons_append, List.nil_append]); (with_reducible show wpAny _ _ (call (Value.ref 73) [Value.ref _, Value.int _ _]) _ _ _); k_dflt (refine' CtrR.use (q_word ?hb.u160 ?h0.u160 ?h1.u160 ?h2.u160) ?zB.u160 ?zF.u160 ?zX.u160 ?zN.u160 ?zT.u160 ?zs.u160 ?zf.u160 ?zk.u160 ?zd.u160 ?zu.u160 ?_; (walk_at "nz zz"); (case zs => k_mem); (case hb => with_reducible assumption); (case h0 => walk_at "nz om"); (case h1 => first | walk_at "nz om" | (walk_at "nz len")); (case h2 => first | walk_at "nz om" | (walk_at "nz len")); k_whole); intro r9 h9 tk9 hP F9 N9; obtain ⟨⟨t9, e9⟩, lo9, hi9⟩ := hP; subst e9; (try dsimp only at N9); (try dsimp only); (try k_sweep); (try k_fold))
  k_with "L163" => (k_here; (try dsimp only [List.append_nil, List.cons_append, List.nil_append]); (with_reducible show wpAny _ _ (call (Value.ref 66) [Value.ref _, Value.int _ _]) _ _ _); k_dflt (refine' CtrR.use (q_half ?hb.u161 ?h0.u161 ?h1.u161 ?h2.u161) ?zB.u161 ?zF.u161 ?zX.u161 ?zN.u161 ?zT.u161 ?zs.u161 ?zf.u161 ?zk.u161 ?zd.u161 ?zu.u161 ?_; (walk_at "nz zz"); (case zs => k_mem); (case hb => with_reducible assumption); (case h0 => walk_at "nz om"); (case h1 => first | walk_at "nz om" | (walk_at "nz len")); (case h2 => first | walk_at "nz om" | (walk_at "nz len")); k_whole); intro r9 h9 tk9 hP F9 N9; obtain ⟨⟨t9, e9⟩, lo9, hi9⟩ := hP; subst e9; (try dsimp only at N9); (try dsimp only); (try k_sweep); (try k_fold))
  k_with "L164" => (k_here; (try dsimp only [List.append_nil, List.cons_append, List.nil_append]); (with_reducible show wpAny _ _ (call (Value.ref 73) [Value.bytes _ _, Value.int _ _]) _ _ _); k_dflt (refine' Ctr.use (c_word_b _ _ _ _ _ _ _ ?hb.u162 ?h0.u162 ?h1.u162 ?h2.u162) ?zB.u162 ?zF.u162 ?zX.u162 ?zN.u162 ?zT.u162 ?zs.u162 ?zf.u162 ?zk.u162 ?zd.u162 ?zu.u162 ?_; (walk_at "nz zz"); (case zs => exact sub_rfl); (case hb => with_reducible assumption); (case h0 => walk_at "nz om"); (case h1 => first | walk_at "nz om" | (walk_at "nz len")); (case h2 => first | walk_at "nz om" | (walk_at "nz len")); k_whole); intro r9 l9 h9 tk9 hP F9 N9; obtain ⟨⟨t9, e9⟩, lo9, hi9, e8⟩ := hP; subst e9; subst e8; (try dsimp only at N9); (try dsimp only); (try k_sweep); (try k_fold))
  k_with "L165" => (k_here; (try dsimp only [List.append_nil, List.cons_append, List.nil_append]); (with_reducible show wpAny _ _ (call (Value.ref 80) [Value.ref _, Value.int _ _, Value.int _ _]) _ _ _); k_dflt (refine' CtrU.use (u_put_half ?hb.u163 ?h0.u163 ?h1.u163 ?h2.u163 ?h3.u163 ?h4.u163) ?zB.u163 ?zF.u163 ?zX.u163 ?zN.u163 ?zT.u163 ?zs.u163 ?zf.u163 ?zk.u163 ?zd.u163 ?zu.u163 ?_; (walk_at "nz zz"); (case zs => k_updF); (case hb => with_reducible assumption); (case h0 => walk_at "nz om"); (case h1 => first | walk_at "nz om" | (walk_at "nz len")); (case h2 => first | walk_at "nz om" | (walk_at "nz len")); (case h3 => first | walk_at "nz om" | (walk_at "nz side")); (case h4 => first | walk_at "nz om" | (walk_at "nz side")); k_whole); intro r9 o9 h9 tk9 hP F9 N9; obtain ⟨e9, b9, e8, hb9⟩ := hP; subst e9; subst e8; (try dsimp only at N9); (try dsimp only); (try k_sweep); (try k_fold))
  k_with "L166" => (k_here; (with_reducible show wpAny _ _ (eval (Expr.Name (Str.ofString "bytearray") _) _) _ _ _); (with_reducible rename Fr _ _ _ _ => kF); with_unfolding_all refine guard_global (by rfl) ?_; k_dflt (refine' name_B kF ?k1.u164 ?k2.u164 ?k3.u164 ?k4.u164 ?k5.u164 ?_; (case k1 => k_asm); (case k2 => k_asm); (case k3 => k_is); (case k4 => boot_by_name); (case k5 => decide); k_whole))
  k_with "L167" => (k_here; (with_reducible show wpAny _ _ (eval (Expr.Name (Str.ofString "list") _) _) _ _ _); (with_reducible rename Fr _ _ _ _ => kF); with_unfolding_all refine guard_global (by rfl) ?_; k_dflt (refine' name_B kF ?k1.u165 ?k2.u165 ?k3.u165 ?k4.u165 ?k5.u165 ?_; (case k1 => k_asm); (case k2 => k_asm); (case k3 => k_is); (case k4 => boot_by_name); (case k5 => decide); k_whole))
  k_with "L168" => (simp only [List.length_cons, List.length_nil]; omega)
  k_with "L169" => (k_here; (with_reducible show wpAny _ _ (binaryOp _ (Value.ref _) (Value.ref _)) _ _ _); k_dflt (refine' kmk_add_ints ?F.u167 ?N.u167 ?a.u167 ?b.u167 ?i.u167 ?j.u167 ?_ ?z.u167; (case F => k_asm); (case N => k_asm); (case a => kmk_list); (case b => kmk_list); (case i => l_ints); (case j => l_ints); (case z => first | exact dz1 (by walk_at "nz om") (by walk_at "nz om") | exact dz2 (by walk_at "nz om") (by walk_at "nz om") | exact dz3 (by walk_at "nz om") (by walk_at "nz om") | exact dz4 (by walk_at "nz om") (by walk_at "nz om"))); intro D' ws' h' F' N' l1 hI'; (try k_lt l1); (try k_sweep))
  k_with "L170" => (k_here; (with_reducible show wpAny _ _ (binaryOp _ (Value.ref _) (Value.ref _)) _ _ _); k_dflt (refine' add_due ?F.u168 ?N.u168 ?a.u168 ?b.u168 ?i.u168 ?j.u168 ?a0.u168 ?a5.u168 ?_; (case F => k_asm); (case N => k_asm); (case a => kmk_list); (case b => kmk_list); (case i => with_reducible assumption); (case j => with_reducible assumption); (case a0 => walk_at "nz om"); (case a5 => walk_at "nz om")); intro D' ws' h' F' N' l1 hI'; (try k_lt l1); (try k_sweep))
  k_with "L171" => (k_here; k_dflt (first | refine' slice_upto ?F.u169 ?N.u169 ?l.u169 ?i.u169 ?h0.u169 ?z.u169 ?_ ?s.u169 ?t.u169 | refine' slice_from ?F.u169 ?N.u169 ?l.u169 ?i.u169 ?h0.u169 ?z.u169 ?_ ?s.u169 ?t.u169; (case F => k_asm); (case N => k_asm); (case l => exact News.isList (by k_asm) (by k_mem)); (case i => with_reducible assumption); (case h0 => walk_at "nz om"); (case z => exact dueL_room (by omega) (by omega)); (case s => with_unfolding_all rfl); (case t => intro _; with_unfolding_all rfl); k_whole); intro D9 ws9 h9 F9 N9 l9 hi9; (try k_lt l9); (try k_sweep))
  k_with "L172" => (k_here; (try dsimp only [List.append_nil, List.cons_append, List.nil_append]); (with_reducible show wpAny _ _ (call (Value.ref 144) [Value.ref _, Value.int _ _]) _ _ _); k_dflt (refine' CtrN.use (n_row_of ?hD.u170 ?h1.u170 ?h2.u170 ?h3.u170 ?h4.u170 ?h5.u170 ?h6.u170 ?h7.u170 ?h8.u170 ?h9.u170 ?h10.u170 ?ok.u170 ?hk.u170 ?hk2.u170) ?zB.u170 ?zF.u170 ?zX.u170 ?zN.u170 ?zT.u170 ?zs.u170 ?zf.u170 ?zk.u170 ?zd.u170 ?zu.u170 ?_; (walk_at "nz zz"); (case zs => exact sub_cons (by k_mem) (sub_cons (by k_mem) (fun _ h => nomatch h))); (case hD => assumption); (case h1 => walk_at "nz om"); (case h2 => walk_at "nz om"); (case h3 => walk_at "nz om"); (case h4 => walk_at "nz om"); (case h5 => walk_at "nz om"); (case h6 => walk_at "nz om"); (case h7 => walk_at "nz om"); (case h8 => walk_at "nz om"); (case h9 => walk_at "nz om"); (case h10 => walk_at "nz om"); (case ok => assumption); (case hk => walk_at "nz om"); (case hk2 => walk_at "nz om"); k_whole); intro r9 nw9 h9 tk9 hP hlt F9 N9; obtain ⟨fa9, u1, u2, n9, e9, e8⟩ := hP; subst e9; subst e8; (have lt9 := hlt _ (List.mem_singleton.mpr rfl)); clear hlt; (try k_lt lt9); (try dsimp only [List.cons_append, List.nil_append] at N9); (try dsimp only); (try k_sweep); (try k_fold))
  k_with "L173" => (k_here; (try dsimp only [List.append_nil, List.cons_append, List.nil_append]); (with_reducible show wpAny _ _ (call (Value.ref 151) [Value.ref _, Value.int _ _]) _ _ _); k_dflt (refine' CtrN.use (n_bit_of ?hD.u171 ?h1.u171 ?h2.u171 ?h3.u171 ?h4.u171 ?h5.u171 ?h6.u171 ?h7.u171 ?h8.u171 ?h9.u171 ?h10.u171 ?ok.u171 ?hk.u171 ?hk2.u171) ?zB.u171 ?zF.u171 ?zX.u171 ?zN.u171 ?zT.u171 ?zs.u171 ?zf.u171 ?zk.u171 ?zd.u171 ?zu.u171 ?_; (walk_at "nz zz"); (case zs => exact sub_cons (by k_mem) (sub_cons (by k_mem) (fun _ h => nomatch h))); (case hD => assumption); (case h1 => walk_at "nz om"); (case h2 => walk_at "nz om"); (case h3 => walk_at "nz om"); (case h4 => walk_at "nz om"); (case h5 => walk_at "nz om"); (case h6 => walk_at "nz om"); (case h7 => walk_at "nz om"); (case h8 => walk_at "nz om"); (case h9 => walk_at "nz om"); (case h10 => walk_at "nz om"); (case ok => assumption); (case hk => walk_at "nz om"); (case hk2 => walk_at "nz om"); k_whole); intro r9 nw9 h9 tk9 hP hlt F9 N9; obtain ⟨fa9, u1, u2, u3, n9, e9, e8⟩ := hP; subst e9; subst e8; (have lt9 := hlt _ (List.mem_singleton.mpr rfl)); clear hlt; (try k_lt lt9); (try dsimp only [List.cons_append, List.nil_append] at N9); (try dsimp only); (try k_sweep); (try k_fold))
  k_with "L174" => (k_here; (with_reducible show wpAny _ _ (subscriptTail (Expr.Name (Str.ofString "due") _) _ (Value.ref _) (Value.int _ _)) _ _ _); k_dflt (refine' lit_tail ?hl.u172 ?h0.u172 ?h2.u172 ?hx.u172 ?_ ?hs.u172; (case hl => exact News.isList (by k_asm) (by k_mem)); (case h0 => decide); (case h2 => decide); (case hx => exact rfl); (case hs => with_unfolding_all rfl); k_whole))
  k_with "L175" => (k_here; (with_reducible show wpAny _ _ (subscriptTail (Expr.Name (Str.ofString "places") _) _ (Value.ref _) (Value.int _ _)) _ _ _); k_dflt (refine' lit_tail ?hl.u173 ?h0.u173 ?h2.u173 ?hx.u173 ?_ ?hs.u173; (case hl => exact News.isList (by k_asm) (by k_mem)); (case h0 => decide); (case h2 => decide); (case hx => exact rfl); (case hs => with_unfolding_all rfl); k_whole))
  k_with "L176" => (k_here; (with_reducible show wpAny _ _ (subscriptTail (Expr.Name (Str.ofString "bits") _) _ (Value.ref _) (Value.int _ _)) _ _ _); k_dflt (refine' lit_tail ?hl.u174 ?h0.u174 ?h2.u174 ?hx.u174 ?_ ?hs.u174; (case hl => exact News.isList (by k_asm) (by k_mem)); (case h0 => decide); (case h2 => decide); (case hx => exact rfl); (case hs => with_unfolding_all rfl); k_whole))
  k_with "L177" => (k_here; (with_reducible show wpAny _ _ (compareOp CmpOp.Eq (Value.ref _) (Value.ref _)) _ _ _); k_dflt (refine' eq_dataH ?ra.u175 ?rb.u175 ?sa.u175 ?sb.u175 ?hu.u175 ?_; (case ra => exact reads_tuple_at (News.get (by k_asm) (by k_mem)) rfl rfl (by ked_reads)); (case rb => exact reads_tuple_at (News.get (by k_asm) (by k_mem)) rfl rfl (by ked_reads)); (case sa => rfl); (case sb => rfl); (case hu => ke_room); k_whole); ked_norm)
  k_with "L178" => (k_here; (with_reducible show wpAny _ _ (compareOp CmpOp.NotEq (Value.ref _) (Value.ref _)) _ _ _); k_dflt (refine' ne_dataH ?ra.u176 ?rb.u176 ?sa.u176 ?sb.u176 ?hu.u176 ?_; (case ra => exact reads_list_at (News.get (by k_asm) (by k_mem)) rfl rfl (by ked_reads)); (case rb => exact reads_list_at (News.get (by k_asm) (by k_mem)) rfl rfl (by ked_reads)); (case sa => rfl); (case sb => rfl); (case hu => ke_room); k_whole); ked_norm)
  k_with "L179" => (k_here; (with_reducible show wpAny _ _ (eval (Expr.ListComp (Expr.Tuple _ _ _) _ _ _) _) _ _ _); k_dflt (refine LCg.ListComp_U (F₀ := by k_asm) (by with_unfolding_all rfl) (by decide) (by rfl) (by decide) (by rfl) ?_); k_dflt lcg_toSrc)
  k_with "L180" => (k_here; k_dflt (refine LCg.CompSrc.ledger (by rfl) (by k_asm) (by k_asm) (by k_mem) (by first | size_fits | exact Nat.le_of_ble_eq_true rfl) ?_; intro g'; lcg_lit))
  k_with "L181" => k_dflt (refine' compEnd_tup ?cF.u179 ?cN.u179 ?cO.u179 ?cL.u179 ?cS.u179 ?_; (case cF => k_asm); (case cN => k_asm); (case cO => (simp only [LCg.Off3, and_true]; assumption)); (case cL => assumption); (case cS => lcg_src); k_whole)
  k_with "L182" => (k_here; (with_reducible show wpAny _ _ (truthy (Value.bool _)) _ _ _); k_dflt (refine' truthy_false ?h.u180 ?_; (case h => first | exact nzb1 _ _ _ | exact nzb2 (by assumption) (by assumption) | exact decide_eq_false (Int.not_le.mpr (nzp3 (by assumption) (by assumption))) | exact decide_eq_false (Int.not_lt.mpr (nzp4 (by assumption) (by assumption) (by assumption))) | exact nzb5 _ _ _ _ _ _ (div8 _ _) (div8 _ _) | exact nzb7 _ _ _ _ (div8 _ _) (div8 _ _)); k_whole))
  k_with "L183" => (k_here; (with_reducible show wpAny _ _ (binaryOp Operator.Pow (Value.int 2 _) (Value.int (_ % 8) _)) _ _ _); k_dflt (refine pow8 ?_))
  k_with "L184" => (k_here; (with_reducible show wpAny _ _ (truthy (Value.bool ((_ && _) == _))) _ _ _); k_dflt (refine' truthy_true ?h.u182 ?_; (case h => exact nzq6 (by omega)); k_whole))
  k_with "L185" => (k_here; (with_reducible show wpAny _ _ (truthy (Value.bool (decide (bitI _ _ _ _ + _ / 8 / _ < datI _ _ _ _ _)))) _ _ _); k_dflt (refine' truthy_true ?h.u183 ?_; (case h => exact decide_eq_true (nzp7 (by omega) (by assumption))); k_whole))
  k_with "L186" => ((with_reducible show wpC _ _ _ _ _ _); (fail_if_success (with_reducible show wpC _ _ (call _ _) _ _ _)); (fail_if_success (with_reducible show wpC _ _ (exec (Stmt.Assign [Expr.Name (Str.ofString "octets") _] _ _) _) _ _ _)); refine wpC_any ?_; (try k_fold))
  k_with "L187" => (k_here; (try dsimp only [List.append_nil, List.cons_append, List.nil_append]); (with_reducible show wpAny _ _ (call (Value.ref 245) [Value.int _ _, Value.int _ _, Value.int _ _, Value.int _ _, Value.int _ _]) _ _ _); k_dflt (refine' Ctr.use (c_plan _ _ _ _ _ _ _ _ _ _ _ ?a1.u185 ?a2.u185 ?a3.u185 ?a4.u185 ?a5.u185 ?a6.u185 ?a7.u185 ?a8.u185 ?a9.u185 ?a10.u185 _) ?zB.u185 ?zF.u185 ?zX.u185 ?zN.u185 ?zT.u185 ?zs.u185 ?zf.u185 ?zk.u185 ?zd.u185 ?zu.u185 ?_; (walk_at "nz zz"); (case zs => exact sub_rfl); (case a1 => walk_at "nz om"); (case a2 => walk_at "nz om"); (case a3 => walk_at "nz om"); (case a4 => walk_at "nz om"); (case a5 => walk_at "nz om"); (case a6 => walk_at "nz om"); (case a7 => walk_at "nz om"); (case a8 => walk_at "nz om"); (case a9 => walk_at "nz om"); (case a10 => walk_at "nz om"); k_whole); intro r9 l9 h9 tk9 hP F9 N9; unfold PlanR at hP; rcases hP with ⟨nok9, e9, e8⟩ | ⟨ok9, la9, fa9, u1, u2, u3, u4, u5, u6, u7, u8, u9, u10, u11, n9, n8, e9, lt9, lx9, e8⟩ <;> (subst e9; subst e8; (try k_lt lt9); (try contradiction); (try dsimp only at N9); (try dsimp only); (try k_sweep); (try k_fold)))
  k_with "L188" => (k_here; (with_reducible show wpAny _ _ (call (Value.ref 252) [Value.int _ _, Value.int _ _, Value.int _ _, Value.int _ _, Value.int _ _]) _ _ _); k_dflt (refine' CtrX.use (c_told _ _ _ _ _ _ _ _ _ _ _ ?a1.u186 ?a2.u186 ?a3.u186 ?a4.u186 ?a5.u186 ?a6.u186 ?a7.u186 ?a8.u186 ?a9.u186 ?a10.u186 _) ?zB.u186 ?zF.u186 ?zX.u186 ?zN.u186 ?zT.u186 ?zXB.u186 ?zTB.u186 ?zD.u186 ?zs.u186 ?zf.u186 ?zk.u186 ?zd.u186 ?zu.u186 ?_ (fun _ _ _ _ _ _ _ _ _ hE => False.elim hE); (walk_at "nz zz"); (case zXB => assumption); (case zTB => assumption); (case zD => assumption); (case zs => exact sub_rfl); (case a1 => walk_at "nz om"); (case a2 => walk_at "nz om"); (case a3 => walk_at "nz om"); (case a4 => walk_at "nz om"); (case a5 => walk_at "nz om"); (case a6 => walk_at "nz om"); (case a7 => walk_at "nz om"); (case a8 => walk_at "nz om"); (case a9 => walk_at "nz om"); (case a10 => walk_at "nz om"); k_whole); ((intro r9 l9 g9 h9 tk9 hP Tn F9 N9; rcases hP with ⟨ok9, x9, dx9, D9, e9, lt9, lx9, hD9, e8⟩ | ⟨nok9, e9, e8⟩ <;> (subst e9; subst e8; first | contradiction | ((try k_lt lt9); walk_at "nz turned"; (try dsimp only at N9); (try dsimp only); (try k_sweep); (try k_fold))))))
  k_with "L189" => (k_here; (try dsimp only [List.append_nil, List.cons_append, List.nil_append]); (with_reducible show wpAny _ _ (call (Value.ref 116) [Value.ref _]) _ _ _); k_dflt (refine' CtrN.use (n_most_blocks ?hD.u187 ?h1.u187 ?h2.u187 ?h3.u187 ?h4.u187 ?h5.u187 ?h6.u187 ?h7.u187 ?h8.u187 ?h9.u187 ?h10.u187) ?zB.u187 ?zF.u187 ?zX.u187 ?zN.u187 ?zT.u187 ?zs.u187 ?zf.u187 ?zk.u187 ?zd.u187 ?zu.u187 ?_; (walk_at "nz zz"); (case zs => exact sub_cons (by k_mem) (sub_cons (by k_mem) (fun _ h => nomatch h))); (case hD => assumption); (case h1 => walk_at "nz om"); (case h2 => walk_at "nz om"); (case h3 => walk_at "nz om"); (case h4 => walk_at "nz om"); (case h5 => walk_at "nz om"); (case h6 => walk_at "nz om"); (case h7 => walk_at "nz om"); (case h8 => walk_at "nz om"); (case h9 => walk_at "nz om"); (case h10 => walk_at "nz om"); k_whole); intro r9 nw9 h9 tk9 hP hlt F9 N9; obtain ⟨⟨t9, e9⟩, e8⟩ := hP; subst e9; subst e8; clear hlt; (try dsimp only [List.cons_append, List.nil_append] at N9); (try dsimp only); (try k_sweep); (try k_fold))
  k_with "L190" => (k_here; (try dsimp only [List.append_nil, List.cons_append, List.nil_append]); (with_reducible show wpAny _ _ (call (Value.ref 123) [Value.ref _]) _ _ _); k_dflt (refine' CtrN.use (n_most_size ?hD.u188 ?h1.u188 ?h2.u188 ?h3.u188 ?h4.u188 ?h5.u188 ?h6.u188 ?h7.u188 ?h8.u188 ?h9.u188 ?h10.u188) ?zB.u188 ?zF.u188 ?zX.u188 ?zN.u188 ?zT.u188 ?zs.u188 ?zf.u188 ?zk.u188 ?zd.u188 ?zu.u188 ?_; (walk_at "nz zz"); (case zs => exact sub_cons (by k_mem) (sub_cons (by k_mem) (fun _ h => nomatch h))); (case hD => assumption); (case h1 => walk_at "nz om"); (case h2 => walk_at "nz om"); (case h3 => walk_at "nz om"); (case h4 => walk_at "nz om"); (case h5 => walk_at "nz om"); (case h6 => walk_at "nz om"); (case h7 => walk_at "nz om"); (case h8 => walk_at "nz om"); (case h9 => walk_at "nz om"); (case h10 => walk_at "nz om"); k_whole); intro r9 nw9 h9 tk9 hP hlt F9 N9; obtain ⟨⟨t9, e9⟩, e8⟩ := hP; subst e9; subst e8; clear hlt; (try dsimp only [List.cons_append, List.nil_append] at N9); (try dsimp only); (try k_sweep); (try k_fold))
  k_with "L191" => ((with_reducible show wpC _ _ (callWith _ (Value.ref 137) [Value.ref _] _ _) _ _ _); (try dsimp only); k_dflt (refine' wpC_callW0 ?cF.u189 ?cX.u189 ?cK.u189 ?_; (case cF => with_reducible assumption); (case cX => with_reducible assumption); (case cK => k_is); k_whole))
  k_with "L192" => ((try dsimp only [List.append_nil, List.cons_append, List.nil_append]); (with_reducible show wpC _ _ (call (Value.ref 137) [Value.ref _]) _ _ _); k_dflt (refine' CtrC.use (c_octets _ _ _ _ _ _ _ _ _ _ ?hD.u190 ?a1.u190 ?a2.u190 ?a3.u190 ?a4.u190 ?a5.u190 ?a6.u190 ?a7.u190 ?a8.u190 ?a9.u190 ?a10.u190 ?ok.u190) ?zB.u190 ?zF.u190 ?zX.u190 ?zN.u190 ?zT.u190 ?zs.u190 ?zf.u190 ?zk.u190 ?zd.u190 ?zu.u190 ?_; (walk_at "nz zz"); (case zs => exact sub_cons (by k_mem) (sub_cons (by k_mem) sub_rfl)); (case hD => assumption); (case a1 => walk_at "nz om"); (case a2 => walk_at "nz om"); (case a3 => walk_at "nz om"); (case a4 => walk_at "nz om"); (case a5 => walk_at "nz om"); (case a6 => walk_at "nz om"); (case a7 => walk_at "nz om"); (case a8 => walk_at "nz om"); (case a9 => walk_at "nz om"); (case a10 => walk_at "nz om"); (case ok => assumption); k_whole); intro r9 l9 h9 tk9 hP F9 N9; obtain ⟨b9, t9, e9, hb9, e8⟩ := hP; subst e9; subst e8; (replace N9 := news_tail (news_tail N9)); (try dsimp only at N9); (try dsimp only); (try k_sweep); (try k_fold))
  k_with "L193" => repeat' (first | (k_unfold; (try dsimp only)) | (k_end; kc_close) | walk1 | (dsimp only; walk1) | (dsimp only; k_unfold; (try dsimp only)) | (leave1; (try dsimp only)) | (walk_at "call ref") | fail "no step")
  k_with "L194" => (k_here; (with_reducible show wpAny _ _ (callWith _ (Value.ref _) [Value.ref _] (backTo _ (starEach [] _)) []) _ _ _); k_dflt (refine' callW0 ?cF.u192 ?cX.u192 ?cK.u192 ?_; (case cF => with_reducible assumption); (case cX => with_reducible assumption); (case cK => k_is); k_whole))
  k_with "L195" => ((fail_if_success (with_reducible show wpAny _ _ (exec (Stmt.Assign [Expr.Name (Str.ofString "again") _] _ _) _) _ _ _)); (fail_if_success (with_reducible show wpAny _ _ (exec (Stmt.Assign [Expr.Name (Str.ofString "turned") _] _ _) _) _ _ _)); (fail_if_success (with_reducible show wpAny _ _ (exec (Stmt.Assign [Expr.Name (Str.ofString "own") _] _ _) _) _ _ _)); (fail_if_success (with_reducible show wpAny _ _ (exec (Stmt.Assign [Expr.Tuple (Expr.Name (Str.ofString "words_now") _ :: _) _ _] _ _) _) _ _ _)))
  k_with "L196" => repeat' (first | (k_unfold; (try dsimp only)) | (k_end; kc_close) | (walk_at "nz stop"; walk1) | (dsimp only; walk_at "nz stop"; walk1) | (dsimp only; k_unfold; (try dsimp only)) | fail "no step")
  k_with "L197" => (k_here; (with_reducible show wpAny _ _ (eval (Expr.Name (Str.ofString "word_at") _) (compEnvC _ _ _ _)) _ _ _); k_dflt (refine LCgL.ld_global (by with_reducible assumption) (by with_reducible assumption) (by with_reducible assumption) (by k_is) ?_))
  k_with "L198" => (k_here; (with_reducible show wpAny _ _ (compareOp CmpOp.NotEq (Value.bytes (KBy.picked _ (some 36) none) _) (Value.bytes _ _)) _ _ _); k_dflt (refine' ne_same (octets_rest ?h1.u196 ?h2.u196 ?h3.u196) ?h4.u196 ?_; (case h1 => with_reducible assumption); (case h2 => with_reducible assumption); (case h3 => assumption); (case h4 => assumption); k_whole))
  k_with "L199" => (k_here; (try dsimp only [List.append_nil, List.cons_append, List.nil_append]); (with_reducible show wpAny _ _ (call (Value.ref 73) [Value.bytes _ _, Value.int _ _]) _ _ _); k_dflt (refine' Ctr.use (c_word_b _ _ _ _ _ _ _ ?hb.u197 ?h0.u197 ?h1.u197 ?h2.u197) ?zB.u197 ?zF.u197 ?zX.u197 ?zN.u197 ?zT.u197 ?zs.u197 ?zf.u197 ?zk.u197 ?zd.u197 ?zu.u197 ?_; (walk_at "nz zz"); (case zs => exact sub_rfl); (case hb => with_reducible assumption); (case h0 => walk_at "nz om"); (case h1 => exact word_room (by with_reducible assumption) (by with_reducible assumption)); (case h2 => with_reducible assumption); k_whole); intro r9 l9 h9 tk9 hP F9 N9; obtain ⟨⟨t9, e9⟩, lo9, hi9, e8⟩ := hP; subst e9; subst e8; (try dsimp only at N9); (try dsimp only); (try k_sweep); (try k_fold))
  k_with "L200" => (k_here; (with_reducible show wpAny _ _ (call (Value.ref 259) [Value.bytes _ _]) _ _ _); k_dflt (refine' CtrX.use (c_law_read _ _ _ _ _ ?hb.u198 ?hz.u198) ?zB.u198 ?zF.u198 ?zX.u198 ?zN.u198 ?zT.u198 ?zXB.u198 ?zTB.u198 ?zD.u198 ?zs.u198 ?zf.u198 ?zk.u198 ?zd.u198 ?zu.u198 ?_ (fun _ _ _ _ _ _ _ _ _ hE => False.elim hE); (walk_at "nz zz"); (case zXB => assumption); (case zTB => assumption); (case zD => assumption); (case zs => exact sub_rfl); (case hb => with_reducible assumption); (case hz => with_reducible assumption); k_whole); ((intro r9 l9 g9 h9 tk9 hP Tn F9 N9; rcases hP with ⟨sok9, x9, dx9, D9, e9, lt9, lx9, hD9, e8⟩ | ⟨nok9, e9, e8⟩ <;> (subst e9; subst e8; first | (with_reducible exact absurd (super_there (by with_reducible assumption) (by with_reducible assumption) (by with_reducible assumption) (by with_reducible assumption)) (by rename ¬ superOk _ => nk; exact nk)) | (with_reducible exact short_no (by assumption) (by assumption)) | ((try k_lt lt9); (try (with_reducible rename IsSuper _ _ (wordI _ _) _ _ _ _ => hD8; replace hD8 := super_same (by with_reducible assumption) (by with_reducible assumption) hD8)); walk_at "nz turned"; (try dsimp only at N9); (try dsimp only); (try k_sweep); (try k_fold))))))
  k_with "L201" => (k_here; (try dsimp only [List.append_nil, List.cons_append, List.nil_append]); (with_reducible show wpAny _ _ (call (Value.ref 264) [Value.ref _, Value.ref _, Value.ref _, Value.int _ _, Value.int _ _, Value.int _ _]) _ _ _); k_dflt (refine' Ctr.use (c_places _ _ _ _ _ _ _ _ _ _ _ _ _ _ _ _ _ _ _ _ _ _ _ _ _ _ _ ?hp.u199 ?hk.u199 ?hD.u199 ?ok.u199 ?ha.u199 ?ha2.u199 ?hb.u199 ?hb2.u199 ?hc.u199 ?hc2.u199 ?hd.u199 ?hd2.u199 ?he.u199 ?he2.u199 ?x1.u199 ?x2.u199 ?x3.u199 ?x4.u199) ?zB.u199 ?zF.u199 ?zX.u199 ?zN.u199 ?zT.u199 ?zs.u199 ?zf.u199 ?zk.u199 ?zd.u199 ?zu.u199 ?_; (walk_at "nz zz"); (case zs => repeat (first | exact sub_rfl | refine sub_tail ?_)); (case hp => with_reducible assumption); (case hk => walk_at "nz om"); (case hD => with_reducible assumption); (case ok => with_reducible assumption); (case ha => walk_at "nz om"); (case ha2 => walk_at "nz om"); (case hb => walk_at "nz om"); (case hb2 => walk_at "nz om"); (case hc => walk_at "nz om"); (case hc2 => walk_at "nz om"); (case hd => walk_at "nz om"); (case hd2 => walk_at "nz om"); (case he => walk_at "nz om"); (case he2 => walk_at "nz om"); (case x1 => k_ne); (case x2 => k_ne); (case x3 => k_ne); (case x4 => k_all); k_whole); intro r9 l9 h9 tk9 hP F9 N9; obtain ⟨e9, o9, hp9, e8⟩ := hP; subst e9; subst e8; (try dsimp only at N9); (try dsimp only); (try k_sweep); (try k_fold))
  k_with "L202" => (k_here; (with_reducible show wpAny _ _ (call (Value.type "bytes") [Value.ref _]) _ _ _); k_dflt (refine' KBa.make_K ?kbaF.u200 ?kbaN.u200 ?kbah.u200 ?kbal.u200 ?kbai.u200 ?kbar.u200 ?kban.u200 ?_; (case kbaF => k_asm); (case kbaN => k_asm); (case kbah => rfl); (case kbal => kba_isList); (case kbai => exact IntsAre.cons _ _ .nil); (case kbar => exact xor_in (by assumption) (by assumption) (by omega) (by omega)); (case kban => exact (by decide : (1 : Nat) ≤ 16777216))); intro _ _ _ F' N' kbaIn; (have kbaE := KBa.ints_make kbaIn))
  k_with "L203" => (k_here; (with_reducible show wpAny _ _ (call (Value.ref 259) [Value.bytes _ _]) _ _ _); k_dflt (refine' CtrX.use (c_law_read _ _ _ _ _ ?hb.u201 ?hz.u201) ?zB.u201 ?zF.u201 ?zX.u201 ?zN.u201 ?zT.u201 ?zXB.u201 ?zTB.u201 ?zD.u201 ?zs.u201 ?zf.u201 ?zk.u201 ?zd.u201 ?zu.u201 ?_ (fun _ _ _ _ _ _ _ _ _ hE => False.elim hE); (walk_at "nz zz"); (case zXB => assumption); (case zTB => assumption); (case zD => assumption); (case zs => exact sub_rfl); (case hb => with_reducible assumption); (case hz => first | with_reducible assumption | exact short36 (by with_reducible assumption)); k_whole); ((intro r9 l9 g9 h9 tk9 hP Tn F9 N9; rcases hP with ⟨sok9, x9, dx9, D9, e9, lt9, lx9, hD9, e8⟩ | ⟨nok9, e9, e8⟩ <;> (subst e9; subst e8; first | (with_reducible exact absurd (super_there (by with_reducible assumption) (by with_reducible assumption) (by with_reducible assumption) (by with_reducible assumption)) (by rename ¬ superOk _ => nk; exact nk)) | (with_reducible exact short_no (by assumption) (by assumption)) | ((try k_lt lt9); (try (with_reducible rename IsSuper _ _ (wordI _ _) _ _ _ _ => hD8; replace hD8 := super_same (by with_reducible assumption) (by with_reducible assumption) hD8)); walk_at "nz turned"; (try dsimp only at N9); (try dsimp only); (try k_sweep); (try k_fold))))))
  k_with "L204" => (k_here; (with_reducible show wpAny _ _ (call (Value.ref 245) [_, Value.int (List.getD _ (Int.toNat 1) 0) _, Value.int (List.getD _ (Int.toNat 3) 0) _, Value.int (List.getD _ (Int.toNat 4) 0) _, Value.int (List.getD _ (Int.toNat 8) 0) _]) _ _ _); refine plan_words ?_)
  k_with "L205" => ((with_reducible show wpC _ _ (isTrue (Expr.BoolOp BoolOp.And _ _) _ _) _ _ _); (try k_fold); first | refine wpC_isTrue_and_nil ?_ | refine wpC_isTrue_and ?_)
  k_with "L206" => ((with_reducible show wpC _ _ (isTrue (Expr.UnaryOp UnaryOp.Not _ _) _ _) _ _ _); (try k_fold); refine wpC_isTrue_not ?_)
  k_with "L207" => ((with_reducible show wpC _ _ (isTrue (Expr.Call (Expr.Name _ _) _ _ _) _ _) _ _ _); refine wpC_isTrue_plain ?_)
  k_with "L208" => ((with_reducible show wpC _ _ (exec (Stmt.If (Expr.BoolOp _ _ _) _ _ _) _) _ _ _); refine wpC_If ?_)
  k_with "L209" => ((with_reducible show wpC _ _ (exec (Stmt.If (Expr.UnaryOp _ _ _) _ _ _) _) _ _ _); refine wpC_If ?_)
  k_with "L210" => ((with_reducible show wpC _ _ (eval (Expr.Call (Expr.Name (Str.ofString "_law_pool") _) _ [] _) _) _ _ _); refine wpC_Call ?_; (try k_fold))
  k_with "L211" => ((with_reducible show wpC _ _ (exec (Stmt.Assign [Expr.Name _ _] (Expr.Call (Expr.Name (Str.ofString "_law_pool") _) _ _ _) _) _) _ _ _); refine wpC_Assign_Name ?_)
  k_with "L212" => ((with_reducible show wpC _ _ (eval (Expr.Call (Expr.Name (Str.ofString "_law_path_right") _) _ [] _) _) _ _ _); refine wpC_Call ?_; (try k_fold))
  k_with "L213" => ((with_reducible show wpC _ _ (exec (Stmt.Assign [Expr.Name _ _] (Expr.Call (Expr.Name (Str.ofString "_law_path_right") _) _ _ _) _) _) _ _ _); refine wpC_Assign_Name ?_)
  k_with "L214" => ((with_reducible show wpC _ _ (eval (Expr.Call (Expr.Name (Str.ofString "_law_words_right") _) _ [] _) _) _ _ _); refine wpC_Call ?_; (try k_fold))
  k_with "L215" => ((with_reducible show wpC _ _ (exec (Stmt.Assign [Expr.Name _ _] (Expr.Call (Expr.Name (Str.ofString "_law_words_right") _) _ _ _) _) _) _ _ _); refine wpC_Assign_Name ?_)
  k_with "L216" => ((with_reducible show wpC _ _ (eval (Expr.Call (Expr.Name (Str.ofString "_law_super_right") _) _ [] _) _) _ _ _); refine wpC_Call ?_; (try k_fold))
  k_with "L217" => ((with_reducible show wpC _ _ (exec (Stmt.Assign [Expr.Name _ _] (Expr.Call (Expr.Name (Str.ofString "_law_super_right") _) _ _ _) _) _) _ _ _); refine wpC_Assign_Name ?_)
  k_with "L218" => ((try dsimp only [List.append_nil, List.cons_append, List.nil_append]); (with_reducible show wpC _ _ (call (Value.ref 205) [Value.ref _]) _ _ _); k_dflt (refine' CtrCL.use (c_pool _ _ _ _ _ ?hi.u216 ?hz.u216) ?zB.u216 ?zF.u216 ?zX.u216 ?zN.u216 ?zT.u216 ?zs.u216 ?zls.u216 ?zf.u216 ?zk.u216 ?zd.u216 ?zu.u216 ?_; (case zB => k_asm); (case zF => k_asm); (case zX => k_asm); (case zN => k_asm); (case zT => k_asm); (case zs => exact sub_rfl); (case zls => assumption); (case zf => exact rfl); (case zk => exact rfl); (case zd => first | walk_at "nz om" | (simp only [depth_deeper] at *; omega)); (case zu => first | walk_at "nz om" | (simp only [units_deeper] at *; omega)); (case hi => assumption); (case hz => walk_at "nz om"); k_whole); intro r9 l9 h9 tk9 hP F9 N9; obtain ⟨pa9, o9, e9, hp9, e8, lt9⟩ := hP; subst e9; subst e8; (try k_lt lt9); (try dsimp only at N9); (try dsimp only); (try k_sweep); (try k_fold))
  k_with "L219" => ((try dsimp only [List.append_nil, List.cons_append, List.nil_append]); (with_reducible show wpC _ _ (call (Value.ref 231) [Value.ref _, Value.str _ _]) _ _ _); k_dflt (refine' CtrC.use (c_path_right _ _ _ _ _ _ _ [] ?hr.u217 ?hp.u217 ?hg.u217 ?hn.u217 ?hk.u217) ?zB.u217 ?zF.u217 ?zX.u217 ?zN.u217 ?zT.u217 ?zs.u217 ?zf.u217 ?zk.u217 ?zd.u217 ?zu.u217 ?_; (case zB => k_asm); (case zF => k_asm); (case zX => k_asm); (case zN => k_asm); (case zT => k_asm); (case zs => first | exact sub_cons (by k_mem) (fun _ h => nomatch h) | exact sub_rfl); (case zf => exact rfl); (case zk => exact rfl); (case zd => first | walk_at "nz om" | (simp only [depth_deeper] at *; omega)); (case zu => first | walk_at "nz om" | (simp only [units_deeper] at *; omega)); (case hr => exact fun _ h => nomatch h); (case hp => with_reducible assumption); (case hg => first | with_reducible assumption | exact good_lit (n := 23) (x := Str.ofString "/a//b./fourteen or more") (by decide +kernel)); (case hn => decide); (case hk => walk_at "nz om"); k_whole); intro r9 l9 h9 tk9 hP F9 N9; obtain ⟨e9, o9, hp9, e8⟩ := hP; subst e9; subst e8; (try dsimp only at N9); (try dsimp only); (try k_sweep); (try k_fold))
  k_with "L220" => (k_here; (try dsimp only [List.append_nil, List.cons_append, List.nil_append]); (with_reducible show wpAny _ _ (call (Value.ref 217) [Value.ref _, Value.int _ _]) _ _ _); k_dflt (refine' Ctr.use (c_path _ _ _ _ _ _ [] ?hr.u218 ?hp.u218 ?hk.u218 ?hm0.u218 ?hm1.u218) ?zB.u218 ?zF.u218 ?zX.u218 ?zN.u218 ?zT.u218 ?zs.u218 ?zf.u218 ?zk.u218 ?zd.u218 ?zu.u218 ?_; (case zB => k_asm); (case zF => k_asm); (case zX => k_asm); (case zN => k_asm); (case zT => k_asm); (case zs => first | exact sub_cons (by k_mem) (fun _ h => nomatch h) | exact sub_rfl); (case zf => exact rfl); (case zk => exact rfl); (case zd => first | walk_at "nz om" | (simp only [depth_deeper] at *; omega)); (case zu => first | walk_at "nz om" | (simp only [units_deeper] at *; omega)); (case hr => exact fun _ h => nomatch h); (case hp => with_reducible assumption); (case hk => walk_at "nz om"); (case hm0 => decide); (case hm1 => decide); k_whole); intro r9 l9 h9 tk9 hP F9 N9; obtain ⟨x9, t9, o9, e9, hg9, hp9, e8⟩ := hP; subst e9; subst e8; (try dsimp only at N9); (try dsimp only); (try k_sweep); (try k_fold))
  k_with "L221" => ((try dsimp only [List.append_nil, List.cons_append, List.nil_append]); (with_reducible show wpC _ _ (call (Value.ref 238) [Value.ref _]) _ _ _); k_dflt (refine' CtrC.use (c_words_right _ _ _ _ [] ?hr.u219 ?hp.u219 ?hk.u219) ?zB.u219 ?zF.u219 ?zX.u219 ?zN.u219 ?zT.u219 ?zs.u219 ?zf.u219 ?zk.u219 ?zd.u219 ?zu.u219 ?_; (case zB => k_asm); (case zF => k_asm); (case zX => k_asm); (case zN => k_asm); (case zT => k_asm); (case zs => first | exact sub_cons (by k_mem) (fun _ h => nomatch h) | exact sub_rfl); (case zf => exact rfl); (case zk => exact rfl); (case zd => first | walk_at "nz om" | (simp only [depth_deeper] at *; omega)); (case zu => first | walk_at "nz om" | (simp only [units_deeper] at *; omega)); (case hr => exact fun _ h => nomatch h); (case hp => with_reducible assumption); (case hk => walk_at "nz om"); k_whole); intro r9 l9 h9 tk9 hP F9 N9; obtain ⟨e9, o9, hp9, e8⟩ := hP; subst e9; subst e8; (try dsimp only at N9); (try dsimp only); (try k_sweep); (try k_fold))
  k_with "L222" => ((try dsimp only [List.append_nil, List.cons_append, List.nil_append]); (with_reducible show wpC _ _ (call (Value.ref 269) [Value.ref _]) _ _ _); k_dflt (refine' CtrD.use0 (c_super_right _ _ _ _ [(_, _)] ?hr.u220 ?hp.u220 ?hk.u220) ?zB.u220 ?zF.u220 ?zX.u220 ?zN.u220 ?zT.u220 ?zs.u220 ?zf.u220 ?zk.u220 ?zd.u220 ?zu.u220 ?_; (case zB => k_asm); (case zF => k_asm); (case zX => k_asm); (case zN => k_asm); (case zT => k_asm); (case zs => exact sub_cons (by k_mem) (sub_cons (by k_mem) (fun _ h => nomatch h))); (case zf => exact rfl); (case zk => exact rfl); (case zd => first | walk_at "nz om" | (simp only [depth_deeper] at *; omega)); (case zu => first | walk_at "nz om" | (simp only [units_deeper] at *; omega)); (case hr => k_all); (case hp => with_reducible assumption); (case hk => walk_at "nz om"); k_whole); intro r9 l9 h9 tk9 hP F9 N9; obtain ⟨e9, o9, hp9, e8⟩ := hP; subst e9; subst e8; (try dsimp only at N9); (try dsimp only); (try k_sweep); (try k_fold))
  k_with "L223" => ((rename IsRange _ _ _ _ _ _ _ _ => hr9); k_dflt (refine' forC_law 1 hr9 (by decide) ?hh.u221 ?F.u221 ?N.u221 ?hs.u221 ?hp.u221 ?_ ?_; (case hh => rfl); (case F => k_asm); (case N => k_asm); (case hs => exact sub_cons (by k_mem) (fun _ h => nomatch h)); (case hp => with_reducible assumption); k_whole))
  k_with "L224" => ((rename IsRange _ _ _ _ _ _ _ _ => hr9); k_dflt (refine' forC_law 4 hr9 (by decide) ?hh.u222 ?F.u222 ?N.u222 ?hs.u222 ?hp.u222 ?_ ?_; (case hh => rfl); (case F => k_asm); (case N => k_asm); (case hs => exact sub_cons (by k_mem) (fun _ h => nomatch h)); (case hp => with_reducible assumption); k_whole))
  k_with "nz ne" => (refine neN ?_; (try dsimp only); first | with_reducible assumption | exact Ne.symm (by with_reducible assumption) | (walk_at "nz pq"; walk_at "nz pi"; walk_at "nz pr"; omega) | omega)
  k_with "nz mf" => first | exact PySem.IntMulOk.of_left (PySem.intBits_le_64 (by decide) (by decide)) | exact PySem.IntMulOk.of_right (PySem.intBits_le_64 (by decide) (by decide))
  k_with "nz all" => assumption
  k_with "nz all" => exact allLt_ne (by assumption)
  k_with "nz all" => exact lts_ne (by assumption)
  trivial
section
theorem off_Nz3 : True := by
  w_top off
  trivial
open PySem PySem.W PySem.Calls PyProof.Rows
abbrev Led := List (Addr × Obj)
/-- what is known around a call: nothing is handled, the frame at hand is env's -/
abbrev arK (dp un : Nat) (gd : Option (List Code)) (env : Env) (outer : List Env) : Around := { handled := none, depth := dp, frames := some (env :: outer), guards := gd, units := un }
/-- what a call of the def at f does: with the ledger `news` it ends with a value and a ledger that Post lets, or raises with one that PostE lets -/
def Ctr (w : World) (f : Addr) (vs : List Value) (d u : Nat) (news : Led) (Post PostE : Value → Led → Prop) : Prop :=
  ∀ (mean : ExcName → Option Value) (mg mb : Str → Option Value) (dp un : Nat) (gd : Option (List Code)) (A₀ : Around) (env : Env) (outer : List Env) (base h₀ : Heap) (L : Addr) (m : Str → Option Value) (s : Shared) (Q E : Value → Shared → Prop),
    Below A₀ base outer h₀ → Fr h₀ L s.heap m → (NzH.hd.heap_39 w.params).In h₀ → News h₀ L s.heap news →
    Top NzH.hd.view_39 (looseW NzH.hd.view_39 [Str.ofString "BoardError", Str.ofString "Super"]) mean mg mb h₀ →
    env.frame = some L → env.scope.kind = .function → dp + d < recursionLimit → un + u < cLine →
    (∀ r news' h' tk, Post r news' → Fr h₀ L h' m → News h₀ L h' news' → Q r { s with heap := h', toks := tk }) →
    (∀ e news' h' tk, PostE e news' → Fr h₀ L h' m → News h₀ L h' news' → E e { s with heap := h', toks := tk }) →
    wpAny (model PySem.Challenge.rw_nz0212_01.row.prog w) (arK dp un gd env outer) (call (.ref f) vs) Q E s
/-- the same for calm stacks alone; it does not raise -/
def CtrC (w : World) (f : Addr) (vs : List Value) (d u : Nat) (news : Led) (Post : Value → Led → Prop) : Prop :=
  ∀ (mean : ExcName → Option Value) (mg mb : Str → Option Value) (dp un : Nat) (gd : Option (List Code)) (A₀ : Around) (env : Env) (outer : List Env) (base h₀ : Heap) (L : Addr) (m : Str → Option Value) (s : Shared) (Q E : Value → Shared → Prop),
    Below A₀ base outer h₀ → Fr h₀ L s.heap m → (NzH.hd.heap_39 w.params).In h₀ → News h₀ L s.heap news →
    Top NzH.hd.view_39 (looseW NzH.hd.view_39 [Str.ofString "BoardError", Str.ofString "Super"]) mean mg mb h₀ →
    env.frame = some L → env.scope.kind = .function → dp + d < recursionLimit → un + u < cLine →
    (∀ r news' h' tk, Post r news' → Fr h₀ L h' m → News h₀ L h' news' → Q r { s with heap := h', toks := tk }) →
    wpC (model PySem.Challenge.rw_nz0212_01.row.prog w) (arK dp un gd env outer) (call (.ref f) vs) Q E s
abbrev NoE : Value → Led → Prop := fun _ _ => False
def retOf : Flow → Value
  | .ret v => v
  | _ => .none
/-- a def's body is at its end -/
def EndQ (Post : Value → Led → Prop) (g : Heap) (L : Addr) (s : Shared) (fl : Flow) (s' : Shared) : Prop :=
  ∃ m' news', Fr g L s'.heap m' ∧ News g L s'.heap news' ∧ Post (retOf fl) news' ∧ s'.gens = s.gens ∧ s'.drawn = s.drawn ∧ s'.os = s.os
theorem endQ_of {Post : Value → Led → Prop} {g : Heap} {L : Addr} {s s' : Shared} {fl : Flow} {m' : Str → Option Value} {led' : Led} (F : Fr g L s'.heap m') (P : Post (retOf fl) led') (N : News g L s'.heap led')
    (S1 : s'.gens = s.gens) (S2 : s'.drawn = s.drawn) (S3 : s'.os = s.os) : EndQ Post g L s fl s' := ⟨m', led', F, N, P, S1, S2, S3⟩
section
variable {w : World} {f : Addr} {vs : List Value} {d u : Nat} {news : Led} {Post : Value → Led → Prop}
  {name qual : Str} {params : Arguments} {body : List Stmt} {scope : Scope} {dV kV doc pm cdv ct oc : Value} {an od : Option Addr} {osl : Array (Option Value)} {binds : List (Str × Value)}
theorem ctr_def (ho : (NzH.hd.heap_39 w.params).lookup f = some ⟨oc, od, .func (fnOf name qual params body scope dV kV doc pm an cdv ct), osl⟩) (hcd : codeIn (NzH.hd.heap_39 w.params) cdv qual = true)
    (hbind : bindArgs (fnOf name qual params body scope dV kV doc pm an cdv ct) ⟨vs, []⟩ = pure binds) (hloc : ∀ y ∈ binds, scope.names.lookup y.1 = some .local)
    (hco : scope.isCoroutine = false) (hgen : scope.isGenerator = false) (hk : scope.kind = .function) (hcell : ∀ x ∈ scope.names, x.2 ≠ .cell)
    (h : ∀ (mean : ExcName → Option Value) (mg mb : Str → Option Value) (dp un : Nat) (gd : Option (List Code)) (env : Env) (outer : List Env) (base g : Heap) (L : Addr) (s : Shared),
      Below (arK dp un gd env outer) base (env :: outer) g → Fr g L s.heap (fun y => binds.reverse.lookup y) → (NzH.hd.heap_39 w.params).In g → News g L s.heap news →
      Top NzH.hd.view_39 (looseW NzH.hd.view_39 [Str.ofString "BoardError", Str.ofString "Super"]) mean mg mb g → dp + d < recursionLimit → un + u < cLine →
      wpAny (model PySem.Challenge.rw_nz0212_01.row.prog w) ((arK dp un gd env outer).deeper (envOf qual scope L f cdv)) (execs body (envOf qual scope L f cdv)) (EndQ Post g L s) (fun _ _ => False) s) :
    Ctr w f vs d u news Post NoE := by
  intro mean mg mb dp un gd A₀ env outer base h₀ L m s Q E B F X N T hf hke hd hu hQ _
  refine wpAny_call (code_def B F X N T rfl hf hke ho hcd (show dp < recursionLimit by omega) (BindsTo.of_eq hbind) hloc (fun g L' h₁ FG F' N' B' X' T' => ?_) hco hgen hk hcell)
  refine wpAny_mono (h mean mg mb dp un gd env outer base g L' { s with heap := h₁, toks := s.toks + binds.length } B' F' X' N' T' hd hu) (fun fl s' e => ?_) fun _ _ e => e.elim
  obtain ⟨m', news', F2, N2, hP, e1, e2, e3⟩ := e
  refine leaveK_ F2 N2 fun F3 N3 => ?_
  obtain ⟨hp, ge, dr, tk, os⟩ := s'
  dsimp only at e1 e2 e3 F3 N3
  subst e1; subst e2; subst e3
  have := hQ _ _ _ tk hP F3 N3
  cases fl <;> exact this
theorem codeC_func {prog : Program} {M : Model} {A : Around} {body : List Stmt} {env : Env} {R : Result → Shared → Prop} {s : Shared} (hM : M = model prog w)
    (h : wpC M (A.deeper env) (execs body env) (fun f s' => R (.ok (.ret (match f with | .ret v => v | _ => .none))) s') (fun _ _ => False) s) : codeC M A (.func body env) R s := by
  subst hM
  refine codeC_of_tree ?_
  show wpC _ (A.deeper env) (do point; match ← (execs body env).onRaise (leaving env) with | .ret v => ret v | _ => ret .none) _ _ s
  refine wpC_bind (wpC_any (wpAny_point (wpC_bind (wpC_onRaise (wpC_mono h (fun f s' h' => ?_) fun _ _ h' => h'.elim)))))
  cases f <;> exact wpC_pure h'
theorem ctrC_def (ho : (NzH.hd.heap_39 w.params).lookup f = some ⟨oc, od, .func (fnOf name qual params body scope dV kV doc pm an cdv ct), osl⟩) (hcd : codeIn (NzH.hd.heap_39 w.params) cdv qual = true)
    (hbind : bindArgs (fnOf name qual params body scope dV kV doc pm an cdv ct) ⟨vs, []⟩ = pure binds) (hloc : ∀ y ∈ binds, scope.names.lookup y.1 = some .local)
    (hco : scope.isCoroutine = false) (hgen : scope.isGenerator = false) (hk : scope.kind = .function) (hcell : ∀ x ∈ scope.names, x.2 ≠ .cell)
    (h : ∀ (mean : ExcName → Option Value) (mg mb : Str → Option Value) (dp un : Nat) (gd : Option (List Code)) (env : Env) (outer : List Env) (base g : Heap) (L : Addr) (s : Shared),
      Below (arK dp un gd env outer) base (env :: outer) g → Fr g L s.heap (fun y => binds.reverse.lookup y) → (NzH.hd.heap_39 w.params).In g → News g L s.heap news →
      Top NzH.hd.view_39 (looseW NzH.hd.view_39 [Str.ofString "BoardError", Str.ofString "Super"]) mean mg mb g → dp + d < recursionLimit → un + u < cLine →
      wpC (model PySem.Challenge.rw_nz0212_01.row.prog w) ((arK dp un gd env outer).deeper (envOf qual scope L f cdv)) (execs body (envOf qual scope L f cdv)) (EndQ Post g L s) (fun _ _ => False) s) :
    CtrC w f vs d u news Post := by
  intro mean mg mb dp un gd A₀ env outer base h₀ L m s Q E B F X N T hf hke hd hu hQ
  refine wpC_call ?_
  have hX := X.keeps F.keep
  obtain ⟨FG, BG, st, lv⟩ := groundX (R := fun r s' => match r with | .ok (.ret v) => Q v s' | .ok _ => False | .error e => E e s') B F N rfl hf hke (A := arK dp un gd env outer)
  refine codeC_of_tree ?_
  show wpC _ (arK dp un gd env outer).in1 (callAny (.ref f) ⟨vs, []⟩) _ _ s
  refine wpC_any ?_
  simp only [callAny]
  refine wpAny_bind (wpAny_load (hX _ _ ho) ?_)
  obtain ⟨c, o2, vs2, tq, hc, hoc, hdc, hq⟩ := codeRec_of hX hcd
  subst hc
  simp only [callFunction, hco, hgen]
  refine wpAny_bind (m := field (.ref c) 1) (wpAny_field hoc hdc hq (wpAny_bind (wpAny_pure ?_)))
  refine wpAny_bind ?_
  rw [hbind]
  refine wpAny_pure (wpAny_bind (wpAny_newFunctionEnv hcell hloc (fun h₁ hns hsb => ?_) hk))
  have hk₁ : ∀ b o, s.heap.get? b = some o → h₁.get? b = some o := fun b o e => hsb.extBut b o (Nat.ne_of_lt (Heap.lt_size e)) (Heap.get?_push_of_some _ e)
  refine wpAny_bind (wpAny_enterFrame ((T.nolimit.keeps F.keep).fresh _ hsb) (show dp < recursionLimit by omega) (wpAny_pure ⟨rfl, rfl, ?_⟩))
  refine codeC_func rfl ?_
  refine wpC_mono (h mean mg mb dp un gd env outer base _ s.heap.objs.size { s with heap := h₁, toks := s.toks + binds.length } BG
    ⟨hns, fun b o e => hk₁ b o (of_hideAll _ e), Nat.le_of_eq (hideAll_size _ _)⟩ (X.keeps st)
    (fun p hp => ⟨hk₁ _ _ (N p hp).1, Nat.ne_of_lt (Heap.lt_size (N p hp).1), hideAll_none _ (List.mem_map_of_mem hp)⟩) (T.keeps st) hd hu) (fun fl s' e => ?_) fun _ _ e => e
  obtain ⟨m', news', F2, N2, hP, e1, e2, e3⟩ := e
  refine lv _ _ (leaveK_ F2 N2 fun F3 N3 => ?_)
  obtain ⟨hp, ge, dr, tk, os⟩ := s'
  dsimp only at e1 e2 e3 F3 N3
  subst e1; subst e2; subst e3
  have := hQ _ _ _ tk hP F3 N3
  cases fl <;> exact this
inductive Pick (p : Addr × Obj) : Led → Led → Prop
  | head {r} : Pick p (p :: r) r
  | tail {q r r'} : Pick p r r' → Pick p (q :: r) (q :: r')
theorem sub_rfl {l : Led} : ∀ q ∈ l, q ∈ l := fun _ h => h
theorem Pick.sub {p : Addr × Obj} : ∀ {l r : Led}, Pick p l r → ∀ q ∈ p :: r, q ∈ l
  | _, _, .head, q, h => h
  | _, _, .tail k, q, h => by
    rcases List.mem_cons.mp h with rfl | h
    · exact .tail _ (k.sub _ (.head _))
    · rcases List.mem_cons.mp h with rfl | h
      · exact .head _
      · exact .tail _ (k.sub _ (.tail _ h))
theorem Pick.sub2 {p p' : Addr × Obj} {l r r' : Led} (k : Pick p l r) (k' : Pick p' r r') : ∀ q ∈ p :: p' :: r', q ∈ l := fun q h => by
  refine k.sub q ?_
  rcases List.mem_cons.mp h with rfl | h
  · exact .head _
  · exact .tail _ (k'.sub _ h)
theorem allLt_ne {x : Addr} {l : Led} (h : AllLt x l) : ∀ q ∈ l, q.1 ≠ x := by
  induction l with
  | nil => intro q hq; cases hq
  | cons p r ih =>
    intro q hq
    rcases List.mem_cons.mp hq with e | hq
    · rw [e]; exact Nat.ne_of_lt h.1
    · exact ih h.2 q hq
theorem sub_cons {q : Addr × Obj} {l led : Led} (h : q ∈ led) (hl : ∀ p ∈ l, p ∈ led) : ∀ p ∈ q :: l, p ∈ led := fun p hp => by
  rcases List.mem_cons.mp hp with rfl | hp
  · exact h
  · exact hl p hp
theorem sub_tail {q : Addr × Obj} {l led : Led} (hl : ∀ p ∈ l, p ∈ led) : ∀ p ∈ l, p ∈ q :: led := fun p hp => .tail _ (hl p hp)
theorem sub_app {l led more : Led} (hl : ∀ p ∈ l, p ∈ led) : ∀ p ∈ l, p ∈ more ++ led := fun p hp => List.mem_append_right _ (hl p hp)
theorem news_sub {g h : Heap} {L : Addr} {l led : Led} (N : News g L h led) (hs : ∀ p ∈ l, p ∈ led) : News g L h l := fun p hp => N p (hs p hp)
theorem lts_ne {x : Addr} {l : Led} (h : ∀ p ∈ l, p.1 < x) : ∀ q ∈ l, q.1 ≠ x := fun q hq => Nat.ne_of_lt (h q hq)
theorem Ctr.use (C : Ctr w f vs d u news Post NoE) {mean : ExcName → Option Value} {mg mb : Str → Option Value} {dp un : Nat} {gd : Option (List Code)} {A₀ : Around} {env : Env} {outer : List Env} {base h₀ : Heap} {L : Addr} {m : Str → Option Value} {s : Shared} {Q E : Value → Shared → Prop} {led : Led}
    (B : Below A₀ base outer h₀) (F : Fr h₀ L s.heap m) (X : (NzH.hd.heap_39 w.params).In h₀) (N : News h₀ L s.heap led)
    (T : Top NzH.hd.view_39 (looseW NzH.hd.view_39 [Str.ofString "BoardError", Str.ofString "Super"]) mean mg mb h₀)
    (hs : ∀ p ∈ news, p ∈ led) (hf : env.frame = some L) (hk : env.scope.kind = .function) (hd : dp + d < recursionLimit) (hu : un + u < cLine)
    (h : ∀ r news' h' tk, Post r news' → Fr h₀ L h' m → News h₀ L h' news' → Q r { s with heap := h', toks := tk }) :
    wpAny (model PySem.Challenge.rw_nz0212_01.row.prog w) (arK dp un gd env outer) (call (.ref f) vs) Q E s := by
  have N' : News h₀ L s.heap news := fun p hp => N p (hs p hp)
  have hE : ∀ (e : Value) (news' : Led) (h' : Heap) (tk : Nat), NoE e news' → Fr h₀ L h' m → News h₀ L h' news' → E e { s with heap := h', toks := tk } := fun _ _ _ _ e => e.elim
  unfold Ctr at C
  exact C mean mg mb dp un gd A₀ env outer base h₀ L m s Q E B F X N' T hf hk hd hu h hE
theorem CtrC.use (C : CtrC w f vs d u news Post) {mean : ExcName → Option Value} {mg mb : Str → Option Value} {dp un : Nat} {gd : Option (List Code)} {A₀ : Around} {env : Env} {outer : List Env} {base h₀ : Heap} {L : Addr} {m : Str → Option Value} {s : Shared} {Q E : Value → Shared → Prop} {led : Led}
    (B : Below A₀ base outer h₀) (F : Fr h₀ L s.heap m) (X : (NzH.hd.heap_39 w.params).In h₀) (N : News h₀ L s.heap led)
    (T : Top NzH.hd.view_39 (looseW NzH.hd.view_39 [Str.ofString "BoardError", Str.ofString "Super"]) mean mg mb h₀)
    (hs : ∀ p ∈ news, p ∈ led) (hf : env.frame = some L) (hk : env.scope.kind = .function) (hd : dp + d < recursionLimit) (hu : un + u < cLine)
    (h : ∀ r news' h' tk, Post r news' → Fr h₀ L h' m → News h₀ L h' news' → Q r { s with heap := h', toks := tk }) :
    wpC (model PySem.Challenge.rw_nz0212_01.row.prog w) (arK dp un gd env outer) (call (.ref f) vs) Q E s := by
  have N' : News h₀ L s.heap news := fun p hp => N p (hs p hp)
  unfold CtrC at C
  exact C mean mg mb dp un gd A₀ env outer base h₀ L m s Q E B F X N' T hf hk hd hu h
theorem ctrC_any (h : Ctr w f vs d u news Post NoE) : CtrC w f vs d u news Post :=
  fun mean mg mb dp un gd A₀ env outer base h₀ L m s Q E B F X N T hf hke hd hu hQ => wpC_any (h mean mg mb dp un gd A₀ env outer base h₀ L m s Q E B F X N T hf hke hd hu hQ fun _ _ _ _ e => e.elim)
end
theorem roomD1 {dp d k : Nat} (h : dp + d < recursionLimit) (hk : Nat.ble (k + 1) d = true) : dp + 1 + k < recursionLimit := by
  have := Nat.le_of_ble_eq_true hk; omega
theorem roomU3 {dp d k : Nat} (h : dp + d < cLine) (hk : Nat.ble (k + 3) d = true) : dp + 3 + k < cLine := by
  have := Nat.le_of_ble_eq_true hk; omega
end
section
theorem off_NzHe : True := by
  w_top off
  trivial
open PySem PySem.W PySem.Calls PyProof.Rows
/-- it is enough to prove a thing of the one that would break it -/
theorem henk {α : Type} [Nonempty α] {P : α → Prop} (h : P (Classical.epsilon fun y => ¬ P y)) (y : α) : P y :=
  Classical.byContradiction fun n => (Classical.epsilon_spec (p := fun y => ¬ P y) ⟨y, n⟩) h
instance wNe : Nonempty World := ⟨aWorld 0⟩
instance arNe : Nonempty Around := ⟨{}⟩
instance shNe : Nonempty Shared := ⟨⟨default, #[], boot_drawn, 0, default⟩⟩
instance pgNe : Nonempty Program := ⟨PySem.Challenge.rw_nz0212_01.row.prog⟩
instance mdNe : Nonempty Model := ⟨model PySem.Challenge.rw_nz0212_01.row.prog (aWorld 0)⟩
end
section
theorem off_NzHk : True := by
  w_top off
  trivial
open PySem PySem.W PySem.Calls PyProof.Rows
/-- what stands around a def's body when it is entered -/
structure Fm where
  mean : ExcName → Option Value
  mg : Str → Option Value
  mb : Str → Option Value
  dp : Nat
  un : Nat
  gd : Option (List Code)
  env : Env
  outer : List Env
  base : Heap
  g : Heap
  L : Addr
  s : Shared
instance fmNe : Nonempty Fm := ⟨⟨fun _ => none, fun _ => none, fun _ => none, 0, 0, none, default, [], default, default, 0, ⟨default, #[], boot_drawn, 0, default⟩⟩⟩
noncomputable def bindsOf (w : World) (f : Addr) (vs : List Value) : List (Str × Value) := match (NzH.hd.heap_39 w.params).lookup f with
  | some ⟨_, _, .func fd, _⟩ => (fd.params.args.map fun a => a.arg).zip vs
  | _ => []
def PremA (w : World) (f : Addr) (vs : List Value) (d : Nat) (u : Nat) (news : Led) (Post : Value → Led → Prop) (y : Fm) : Prop :=
  ∀ (name qual : Str) (params : Arguments) (body : List Stmt) (scope : Scope) (dV kV doc pm cdv ct oc : Value) (an od : Option Addr) (osl : Array (Option Value)), (NzH.hd.heap_39 w.params).lookup f = some ⟨oc, od, .func (fnOf name qual params body scope dV kV doc pm an cdv ct), osl⟩ →
      Below (arK y.dp y.un y.gd y.env y.outer) y.base (y.env :: y.outer) y.g →
      Fr y.g y.L y.s.heap (fun z => List.lookup z (List.reverse (bindsOf w f vs))) →
      (NzH.hd.heap_39 w.params).In y.g →
      News y.g y.L y.s.heap news →
      Top NzH.hd.view_39 (looseW NzH.hd.view_39 [Str.ofString "BoardError", Str.ofString "Super"]) y.mean y.mg y.mb y.g →
      y.dp + d < recursionLimit →
      y.un + u < cLine →
      wpAny (model PySem.Challenge.rw_nz0212_01.row.prog w) ((arK y.dp y.un y.gd y.env y.outer).deeper (envOf qual scope y.L f cdv)) (execs body (envOf qual scope y.L f cdv)) (EndQ Post y.g y.L y.s) (fun _ _ => False) y.s
theorem premA_of {w : World} {f : Addr} {vs : List Value} {d : Nat} {u : Nat} {news : Led} {Post : Value → Led → Prop} {y : Fm} {name qual : Str} {params : Arguments} {body : List Stmt} {scope : Scope} {dV kV doc pm cdv ct oc : Value} {an od : Option Addr} {osl : Array (Option Value)} {binds : List (Str × Value)}
    (ho : (NzH.hd.heap_39 w.params).lookup f = some ⟨oc, od, .func (fnOf name qual params body scope dV kV doc pm an cdv ct), osl⟩) (hb : bindsOf w f vs = binds)
    (h : Below (arK y.dp y.un y.gd y.env y.outer) y.base (y.env :: y.outer) y.g →
      Fr y.g y.L y.s.heap (fun z => List.lookup z (List.reverse binds)) →
      (NzH.hd.heap_39 w.params).In y.g →
      News y.g y.L y.s.heap news →
      Top NzH.hd.view_39 (looseW NzH.hd.view_39 [Str.ofString "BoardError", Str.ofString "Super"]) y.mean y.mg y.mb y.g →
      y.dp + d < recursionLimit →
      y.un + u < cLine →
      wpAny (model PySem.Challenge.rw_nz0212_01.row.prog w) ((arK y.dp y.un y.gd y.env y.outer).deeper (envOf qual scope y.L f cdv)) (execs body (envOf qual scope y.L f cdv)) (EndQ Post y.g y.L y.s) (fun _ _ => False) y.s) : PremA w f vs d u news Post y := by
  intro name' qual' params' body' scope' dV' kV' doc' pm' cdv' ct' oc' an' od' osl' ho'
  rw [ho] at ho'
  simp only [Option.some.injEq, Obj.mk.injEq, Data.func.injEq] at ho'
  obtain ⟨-, -, e, -⟩ := ho'
  unfold fnOf at e
  injections
  subst_vars
  exact h
def PremC (w : World) (f : Addr) (vs : List Value) (d : Nat) (u : Nat) (news : Led) (Post : Value → Led → Prop) (y : Fm) : Prop :=
  ∀ (name qual : Str) (params : Arguments) (body : List Stmt) (scope : Scope) (dV kV doc pm cdv ct oc : Value) (an od : Option Addr) (osl : Array (Option Value)), (NzH.hd.heap_39 w.params).lookup f = some ⟨oc, od, .func (fnOf name qual params body scope dV kV doc pm an cdv ct), osl⟩ →
      Below (arK y.dp y.un y.gd y.env y.outer) y.base (y.env :: y.outer) y.g →
      Fr y.g y.L y.s.heap (fun z => List.lookup z (List.reverse (bindsOf w f vs))) →
      (NzH.hd.heap_39 w.params).In y.g →
      News y.g y.L y.s.heap news →
      Top NzH.hd.view_39 (looseW NzH.hd.view_39 [Str.ofString "BoardError", Str.ofString "Super"]) y.mean y.mg y.mb y.g →
      y.dp + d < recursionLimit →
      y.un + u < cLine →
      wpC (model PySem.Challenge.rw_nz0212_01.row.prog w) ((arK y.dp y.un y.gd y.env y.outer).deeper (envOf qual scope y.L f cdv)) (execs body (envOf qual scope y.L f cdv)) (EndQ Post y.g y.L y.s) (fun _ _ => False) y.s
theorem premC_of {w : World} {f : Addr} {vs : List Value} {d : Nat} {u : Nat} {news : Led} {Post : Value → Led → Prop} {y : Fm} {name qual : Str} {params : Arguments} {body : List Stmt} {scope : Scope} {dV kV doc pm cdv ct oc : Value} {an od : Option Addr} {osl : Array (Option Value)} {binds : List (Str × Value)}
    (ho : (NzH.hd.heap_39 w.params).lookup f = some ⟨oc, od, .func (fnOf name qual params body scope dV kV doc pm an cdv ct), osl⟩) (hb : bindsOf w f vs = binds)
    (h : Below (arK y.dp y.un y.gd y.env y.outer) y.base (y.env :: y.outer) y.g →
      Fr y.g y.L y.s.heap (fun z => List.lookup z (List.reverse binds)) →
      (NzH.hd.heap_39 w.params).In y.g →
      News y.g y.L y.s.heap news →
      Top NzH.hd.view_39 (looseW NzH.hd.view_39 [Str.ofString "BoardError", Str.ofString "Super"]) y.mean y.mg y.mb y.g →
      y.dp + d < recursionLimit →
      y.un + u < cLine →
      wpC (model PySem.Challenge.rw_nz0212_01.row.prog w) ((arK y.dp y.un y.gd y.env y.outer).deeper (envOf qual scope y.L f cdv)) (execs body (envOf qual scope y.L f cdv)) (EndQ Post y.g y.L y.s) (fun _ _ => False) y.s) : PremC w f vs d u news Post y := by
  intro name' qual' params' body' scope' dV' kV' doc' pm' cdv' ct' oc' an' od' osl' ho'
  rw [ho] at ho'
  simp only [Option.some.injEq, Obj.mk.injEq, Data.func.injEq] at ho'
  obtain ⟨-, -, e, -⟩ := ho'
  unfold fnOf at e
  injections
  subst_vars
  exact h
end
section
theorem off_Nz4 : True := by
  w_top off
  trivial
open PySem PySem.W PySem.Calls PyProof.Rows PySem.Builtin
abbrev baObj (b : Array UInt8) : Obj := { cls := .type "bytearray", data := .bytearray b }
theorem ba_slot_get : Slot "bytearray" "__getitem__" "bytearray.__getitem__" :=
  .of (owner := "bytearray") (n := "__getitem__") (by rw [typeLookup_type, builtinLookup_eq_fast]; kernel_rfl) (by decide +kernel) (by decide +kernel) (by decide +kernel)
    (by first | exact .inl (by decide +kernel) | exact .inr (by decide +kernel)) (by rw [isSubtype_type]; kernel_rfl)
theorem ba_entry_get : entryFor table "bytearray.__getitem__" = some Builtin.«bytearray.__getitem__» := entryFor_of_tree (by kernel_rfl)
theorem ba_args_get (a b : Value) : argsOk "bytearray.__getitem__" ⟨[a, b], []⟩ := by unfold argsOk; kernel_rfl
theorem ba_slot_set : Slot "bytearray" "__setitem__" "bytearray.__setitem__" :=
  .of (owner := "bytearray") (n := "__setitem__") (by rw [typeLookup_type, builtinLookup_eq_fast]; kernel_rfl) (by decide +kernel) (by decide +kernel) (by decide +kernel)
    (by first | exact .inl (by decide +kernel) | exact .inr (by decide +kernel)) (by rw [isSubtype_type]; kernel_rfl)
theorem ba_entry_set : entryFor table "bytearray.__setitem__" = some Builtin.«bytearray.__setitem__» := entryFor_of_tree (by kernel_rfl)
theorem ba_args_set (a b c : Value) : argsOk "bytearray.__setitem__" ⟨[a, b, c], []⟩ := by unfold argsOk; kernel_rfl
theorem ba_slot_len : Slot "bytearray" "__len__" "bytearray.__len__" :=
  .of (owner := "bytearray") (n := "__len__") (by rw [typeLookup_type, builtinLookup_eq_fast]; kernel_rfl) (by decide +kernel) (by decide +kernel) (by decide +kernel)
    (by first | exact .inl (by decide +kernel) | exact .inr (by decide +kernel)) (by rw [isSubtype_type]; kernel_rfl)
theorem ba_entry_len : entryFor table "bytearray.__len__" = some Builtin.«bytearray.__len__» := entryFor_of_tree (by kernel_rfl)
theorem ba_args_len (a : Value) : argsOk "bytearray.__len__" ⟨[a], []⟩ := by unfold argsOk; kernel_rfl
section
variable {prog : Program} {w : World} {M : Model} {A : Around} {E : Value → Shared → Prop} {s : Shared} {a : Addr} {b : Array UInt8} {ks : List Int} {h₀ : Heap} {L : Addr} {m : Str → Option Value} {news news' : Led}
theorem ba_type {o : Obj} (ho : s.heap.get? a = some o) (hc : o.cls = .type "bytearray") : s.TypeIs (.ref a) "bytearray" := ⟨o, ho, hc⟩
theorem ba_subscript {k : Int} {t : Tok} {Q : Option Int → Shared → Prop} (h0 : 0 ≤ k) (h1 : k < 1099511627776) (h : Q (some k) s) : wpAny M A (Bytes.subscript? (.int k t)) Q E s := by
  unfold Bytes.subscript?
  refine wpAny_bind (wpAny_specialOf (typeIs_int s k t) F.slot_int_index.lookup ?_)
  show wpAny M A (if (!Bytes.fitsIndex k) = true then _ else pure (some k)) _ E s
  have e : Bytes.fitsIndex k = true := by simp only [Bytes.fitsIndex, Bool.and_eq_true, decide_eq_true_eq]; omega
  rw [e]
  exact wpAny_pure h
theorem ba_payload {Q : Array UInt8 → Shared → Prop} (ho : s.heap.get? a = some (baObj b)) (h : Q b s) : wpAny M A (Bytes.payload (.ref a)) Q E s := by
  unfold Bytes.payload Bytes.payload?
  exact wpAny_bind (wpAny_bind (wpAny_load ho (wpAny_pure (wpAny_pure h))))
theorem ba_get {k : Int} {t : Tok} {Q : Value → Shared → Prop} (ho : s.heap.get? a = some (baObj b)) (hk : KBw.bInts b = ks) (h0 : 0 ≤ k) (h1 : k < (ks.length : Int)) (h2 : ks.length ≤ 1099511627776)
    (h : Q (.int (ks.getD k.toNat 0) s.toks) { s with toks := s.toks + 1 }) : wpAny (model prog w) A (getItem (.ref a) (.int k t)) Q E s := by
  have hT : s.TypeIs (.ref a) "bytearray" := ⟨_, ho, rfl⟩
  have hz : b.size = ks.length := by rw [← hk, KBw.ints_length]
  refine wpAny_getItem_slot hT (by decide) ba_slot_get (wpAny_call_entry ba_slot_get hT ba_entry_get ?_ (ba_args_get _ _))
  show wpAny _ _ (Bytes.subscript? (.int k t) >>= fun r => _) _ _ s
  refine wpAny_bind (ba_subscript h0 (by omega) ?_)
  show wpAny _ _ (Bytes.payload (.ref a) >>= fun r => _) _ _ s
  refine wpAny_bind (ba_payload ho ?_)
  have hlt : k.toNat < b.size := by omega
  have e : (seqIndex? k b.size).bind (b[·]?) = some b[k.toNat] := by
    have hn : ¬ k < 0 := by omega
    have h1' : k < (b.size : Int) := by omega
    simp [seqIndex?, hn, h0, h1', hlt]
  rw [e]
  refine wpAny_bind (wpAny_mkInt (wpAny_pure ⟨_, rfl, ?_⟩))
  have : ((b[k.toNat].toNat : Nat) : Int) = ks.getD k.toNat 0 := by
    rw [← hk]
    have := KBw.ints_get (b := b) (i := k.toNat) (c := b[k.toNat]) (Array.getElem?_eq_getElem hlt)
    rw [List.getD_eq_getElem?_getD, this]; rfl
  rw [this]; exact h
/-- a write that does not lengthen it beyond the line -/
theorem ba_write {f : Array UInt8 → Array UInt8} {Q : Unit → Shared → Prop} (ho : s.heap.get? a = some (baObj b)) (hz : (f b).size ≤ 16777216)
    (h : Q () { s with heap := s.heap.update a (Obj.mapBytearray f) }) : wpAny M A (Bytes.write (.ref a) f) Q E s := by
  show wpAny _ _ (updateBytearray a f) _ _ _
  unfold updateBytearray
  refine wpAny_bind (wpAny_load ho ?_)
  show wpAny _ _ (update a (Obj.mapBytearray f) >>= fun _ => lookBehind a) _ _ _
  refine wpAny_bind (wpAny_update ho ?_)
  refine wpAny_lookBehind (o := baObj (f b)) (Heap.get?_update_self (Obj.mapBytearray f) ho rfl) ?_ h
  show (if (f b).size > sizeLine then some "bytearray:memory" else none) = none
  rw [if_neg (by rw [sizeLine_eq]; omega)]
theorem ba_byteValue {v : Int} {t : Tok} {Q : UInt8 → Shared → Prop} (h0 : 0 ≤ v) (h1 : v < 256) (h : Q v.toNat.toUInt8 s) : wpAny M A (Bytes.byteValue (.int v t)) Q E s := by
  unfold Bytes.byteValue
  refine wpAny_bind (wpAny_of_eq (rfl : asIndex (.int v t) = pure v) ?_)
  rw [if_neg (by simp only [Bool.or_eq_true, decide_eq_true_eq]; omega)]
  exact wpAny_pure h
theorem bInts_set {b : Array UInt8} {ks : List Int} {i : Nat} {v : Int} (hk : KBw.bInts b = ks) (h0 : 0 ≤ v) (h1 : v < 256) : KBw.bInts (b.setIfInBounds i v.toNat.toUInt8) = ks.set i v := by
  subst hk
  have : ((v.toNat.toUInt8.toNat : Nat) : Int) = v := byte_back h0 h1
  simp only [KBw.bInts, Array.toList_setIfInBounds, List.map_set]
  rw [this]
theorem ba_set {k v : Int} {t u : Tok} {Q : Unit → Shared → Prop} (F : Fr h₀ L s.heap m) (N : News h₀ L s.heap news) (hk : KBw.bInts b = ks) {g : Obj → Led} (U : UpdF a (baObj b) news g)
    (h0 : 0 ≤ k) (h1 : k < (ks.length : Int)) (h2 : ks.length ≤ 16777216) (h3 : 0 ≤ v) (h4 : v < 256)
    (h : ∀ b' h', KBw.bInts b' = ks.set k.toNat v → Fr h₀ L h' m → News h₀ L h' (g (baObj b')) → Q () { s with heap := h' }) : wpAny (model prog w) A (setItem (.ref a) (.int k t) (.int v u)) Q E s := by
  obtain ⟨pre, post, rfl, hg, u1, u2⟩ := U.split
  have ho : s.heap.get? a = some (baObj b) := (N (a, baObj b) (List.mem_append.mpr (.inr (.head _)))).1
  have hT : s.TypeIs (.ref a) "bytearray" := ⟨_, ho, rfl⟩
  have hz : b.size = ks.length := by rw [← hk, KBw.ints_length]
  unfold setItem
  refine wpAny_holding ?_
  refine wpAny_bind (wpAny_sequenceKey hT (by decide) ?_)
  refine wpAny_bind (wpAny_callSpecial?_slot (name := Str.ofString "__setitem__") hT ba_slot_set (wpAny_call_entry ba_slot_set hT ba_entry_set ?_ (ba_args_set _ _ _)))
  show wpAny _ _ (Bytes.subscript? (.int k t) >>= fun r => _) _ _ s
  refine wpAny_bind (ba_subscript h0 (by omega) ?_)
  show wpAny _ _ (Bytes.byteValue (.int v u) >>= fun r => _) _ _ s
  refine wpAny_bind (ba_byteValue h3 h4 ?_)
  show wpAny _ _ (Bytes.payload (.ref a) >>= fun r => _) _ _ s
  refine wpAny_bind (ba_payload ho ?_)
  have e : seqIndex? k b.size = some k.toNat := by
    have hn : ¬ k < 0 := by omega
    have h1' : k < (b.size : Int) := by omega
    simp [seqIndex?, hn, h0, h1']
  rw [e]
  show wpAny _ _ (Bytes.write (.ref a) (·.setIfInBounds k.toNat v.toNat.toUInt8) >>= fun _ => _) _ _ s
  refine wpAny_bind (ba_write ho (by simp only [Array.size_setIfInBounds]; omega) ?_)
  obtain ⟨F', N'⟩ := news_upd (f := Obj.mapBytearray (·.setIfInBounds k.toNat v.toNat.toUInt8)) F N u1 u2 (o' := baObj (b.setIfInBounds k.toNat v.toNat.toUInt8)) rfl rfl
  exact wpAny_pure ⟨.none, rfl, wpAny_pure (h _ _ (bInts_set hk h3 h4) F' (hg _ ▸ N'))⟩
theorem ba_len {Q : Value → Shared → Prop} (ho : s.heap.get? a = some (baObj b)) (hk : KBw.bInts b = ks) (h2 : ks.length ≤ 16777216)
    (h : Q (.int (ks.length : Nat) (s.toks + 1)) { s with toks := s.toks + 1 + 1 }) : wpAny (model prog w) A (call (.builtin "len") [.ref a]) Q E s := by
  have hT : s.TypeIs (.ref a) "bytearray" := ⟨_, ho, rfl⟩
  have hz : (b.size : Int) = (ks.length : Nat) := by rw [← hk, KBw.ints_length]
  rw [← hz] at h
  have hb : b.size ≤ 16777216 := by omega
  refine Calls.call_function_entry kind_len plain_len entry_len (args_len1 _) ?_
  unfold Builtin.«len»
  refine wpAny_bind (m := oneArg "len" _) (wpAny_pure ?_)
  refine wpAny_bind (m := callSpecial? (.ref a) (Str.ofString "__len__")) (wpAny_callSpecial?_slot (name := Str.ofString "__len__") hT ba_slot_len (wpAny_call_entry ba_slot_len hT ba_entry_len ?_ (ba_args_len _)))
  show wpAny _ _ (Bytes.payload (.ref a) >>= fun r => _) _ _ s
  refine wpAny_bind (ba_payload ho ?_)
  refine wpAny_bind (wpAny_mkInt (wpAny_pure ⟨_, rfl, ?_⟩))
  show wpAny _ _ _ _ _ { s with toks := s.toks + 1 }
  refine wpAny_bind (wpAny_holding (wpAny_pure ?_))
  refine wpAny_bind (wpAny_letGo ?_)
  show wpAny _ _ (if (b.size : Int) < 0 then _ else _) _ _ _
  rw [if_neg (by omega)]
  show wpAny _ _ (if (b.size : Int) ≥ 2 ^ 63 then _ else _) _ _ _
  rw [if_neg (by omega)]
  first
    | exact wpAny_bind (wpAny_mkInt (wpAny_pure h))
    | exact wpAny_bind (wpAny_mkInt (wpAny_pure ⟨_, rfl, h⟩))
theorem ba_item {value slice : Expr} {k : Int} {u : Tok} {Q : Value → Shared → Prop} (ho : s.heap.get? a = some (baObj b)) (hk : KBw.bInts b = ks) (h0 : 0 ≤ k) (h1 : k < (ks.length : Int)) (h2 : ks.length ≤ 1099511627776)
    (h : 0 ≤ ks.getD k.toNat 0 → ks.getD k.toNat 0 < 256 → Q (.int (ks.getD k.toNat 0) s.toks) { s with toks := s.toks + 1 })
    (hs : subscripted slice false (.ref a) (.int k u) = operate [.ref a, .int k u] (getItem (.ref a) (.int k u))) :
    wpAny (model prog w) A (subscriptTail value slice (.ref a) (.int k u)) Q E s :=
  have q := KBw.getD_in (ks := ks) (j := k.toNat) (fun x hx => KBw.ints_in (b := b) (hk ▸ hx))
  tail_any (ba_type ho rfl) ba_slot_get.lookup (ba_get ho hk h0 h1 h2 (h q.1 q.2)) hs
end
end
section
local macro_rules | `(tactic| walk_at $s:str) => `(tactic| k_extra $(Lean.Syntax.mkStrLit ("15 " ++ s.getString)))
theorem off_Nz5 : True := by
  w_top off
  trivial
open PySem PySem.W PySem.Calls PyProof.Rows
theorem kw0_Nz5 : True := by
  k_with "15 nz pq" => k_extra "L0"
  k_with "15 nz pn" => k_extra "L1"
  k_with "15 nz pi" => k_extra "L2"
  k_with "15 nz pr" => k_extra "L3"
  k_with "15 nz oo" => k_extra "L4"
  k_with "15 nz zz" => k_extra "L5"
  k_with "15 nz om" => k_extra "L6"
  k_with "15 nz enter" => k_extra "L7"
  k_with "15 nz intro" => k_extra "L8"
  k_with "15 nz go" => k_extra "L9"
  k_with "15 nz end" => k_extra "L10"
  k_with "15 subscriptTail" => k_extra "L11"
  k_with "15 setItem ref int" => k_extra "L12"
  k_with "15 nz side" => k_extra "L13"
  k_with "15 nz pick" => k_extra "L14"
  k_with "15 nz sub" => k_extra "L15"
  k_with "15 nz news" => k_extra "L16"
  k_with "15 nz same" => k_extra "L17"
  k_with "15 nz out" => k_extra "L18"
  trivial
theorem bitOr_low {x y : Int} (k : Nat) (h0 : 0 ≤ x) (h1 : x < 2 ^ k) (h2 : 0 ≤ y) : Builtin.bitOr x (y * 2 ^ k) = x + 2 ^ k * y := by
  obtain ⟨a, rfl⟩ := Int.eq_ofNat_of_zero_le h0
  obtain ⟨b, rfl⟩ := Int.eq_ofNat_of_zero_le h2
  have hb : ((b : Int) * 2 ^ k) = ((b * 2 ^ k : Nat) : Int) := by push_cast; rfl
  have ha : a < 2 ^ k := by
    have : ((a : Nat) : Int) < ((2 ^ k : Nat) : Int) := by push_cast; exact h1
    exact Int.ofNat_lt.mp this
  have key : Builtin.bitOr ((a : Nat) : Int) ((b * 2 ^ k : Nat) : Int) = ((a ||| (b * 2 ^ k) : Nat) : Int) := by
    have e1 : Builtin.bitNot ((a : Nat) : Int) = -(a : Int) - 1 := rfl
    have e2 : Builtin.bitNot ((b * 2 ^ k : Nat) : Int) = -((b * 2 ^ k : Nat) : Int) - 1 := rfl
    unfold Builtin.bitOr Builtin.bitAnd
    rw [e1, e2]
    have n1 : decide (0 ≤ -(a : Int) - 1) = false := by simp; omega
    have n2 : decide (0 ≤ -((b * 2 ^ k : Nat) : Int) - 1) = false := by simp only [decide_eq_false_iff_not]; omega
    rw [n1, n2]
    dsimp only
    have f1 : Builtin.bitNot (-(a : Int) - 1) = (a : Int) := by show -(-(a : Int) - 1) - 1 = _; omega
    have f2 : Builtin.bitNot (-((b * 2 ^ k : Nat) : Int) - 1) = ((b * 2 ^ k : Nat) : Int) := by show -(-((b * 2 ^ k : Nat) : Int) - 1) - 1 = _; omega
    rw [f1, f2]
    show -(-(((a : Int).toNat ||| ((b * 2 ^ k : Nat) : Int).toNat : Nat) : Int) - 1) - 1 = _
    simp only [Int.toNat_natCast]
    omega
  rw [hb, key]
  have e := Nat.two_pow_add_eq_or_of_lt ha b
  rw [Nat.or_comm, Nat.mul_comm b, ← e]
  push_cast
  omega
/-- the half word at a place, the lowest octet first -/
def halfI (ks : List Int) (i : Nat) : Int := ks.getD i 0 + 256 * ks.getD (i + 1) 0
def wordI (ks : List Int) (i : Nat) : Int := halfI ks i + 65536 * halfI ks (i + 2)
/-- a half word, a word laid at a place -/
def putHalf (ks : List Int) (i : Nat) (v : Int) : List Int := (ks.set i (v % 256)).set (i + 1) (v / 256 % 256)
def putWord (ks : List Int) (i : Nat) (v : Int) : List Int := putHalf (putHalf ks i (v % 65536)) (i + 2) (v / 65536 % 65536)
theorem putHalf_length (ks : List Int) (i : Nat) (v : Int) : (putHalf ks i v).length = ks.length := by simp [putHalf]
theorem putWord_length (ks : List Int) (i : Nat) (v : Int) : (putWord ks i v).length = ks.length := by simp [putWord, putHalf_length]
theorem kw1_Nz5 : True := by
  k_with "15 nz len" => k_extra "L19"
  trivial
theorem c_half_a (w : World) (a : Addr) (b : Array UInt8) (ks : List Int) (k : Int) (tk : Tok) (rest : Led) (hb : KBw.bInts b = ks) (h0 : 0 ≤ k) (h1 : k + 1 < ks.length) (h2 : ks.length ≤ 2000) :
    Ctr w 66 [.ref a, .int k tk] 1 8 ((a, baObj b) :: rest) (fun r l => (∃ t, r = .int (halfI ks k.toNat) t) ∧ 0 ≤ halfI ks k.toNat ∧ halfI ks k.toNat < 65536 ∧ l = ((a, baObj b) :: rest)) NoE := by
  walk_at "nz go"
  walk_at "nz end"
  have e : (k + 1).toNat = k.toNat + 1 := by omega
  simp only [e] at *
  exact ⟨⟨_, congrArg (Value.int · _) (bitOr_low 8 (by omega) (by omega) (by omega))⟩, by unfold halfI; omega, by unfold halfI; omega, by trivial⟩
theorem c_half_b (w : World) (b : Array UInt8) (ks : List Int) (k : Int) (tb tk : Tok) (news : Led) (hb : KBw.bInts b = ks) (h0 : 0 ≤ k) (h1 : k + 1 < ks.length) (h2 : ks.length ≤ 2000) :
    Ctr w 66 [.bytes b tb, .int k tk] 1 8 news (fun r l => (∃ t, r = .int (halfI ks k.toNat) t) ∧ 0 ≤ halfI ks k.toNat ∧ halfI ks k.toNat < 65536 ∧ l = news) NoE := by
  walk_at "nz go"
  walk_at "nz end"
  have e : (k + 1).toNat = k.toNat + 1 := by omega
  simp only [e] at *
  exact ⟨⟨_, congrArg (Value.int · _) (bitOr_low 8 (by omega) (by omega) (by omega))⟩, by unfold halfI; omega, by unfold halfI; omega, by trivial⟩
theorem c_put_half (w : World) (a : Addr) (b : Array UInt8) (ks : List Int) (k v : Int) (tk tv : Tok) (rest : Led) (hr : ∀ q ∈ rest, q.1 ≠ a) (hb : KBw.bInts b = ks) (h0 : 0 ≤ k) (h1 : k + 1 < ks.length) (h2 : ks.length ≤ 2000) (h3 : 0 ≤ v) (h4 : v < 4294967296) :
    Ctr w 80 [.ref a, .int k tk, .int v tv] 1 8 ((a, baObj b) :: rest) (fun r l => r = .none ∧ ∃ b', KBw.bInts b' = putHalf ks k.toNat v ∧ l = ((a, baObj b') :: rest)) NoE := by
  walk_at "nz go"
  walk_at "nz end"
  refine ⟨rfl, _, ?_, rfl⟩
  (rename KBw.bInts _ = List.set (List.set _ _ _) _ _ => q)
  rw [q, bitAnd_m8, bitAnd_m8, show (k + 1).toNat = k.toNat + 1 by omega, show (2 : Int) ^ Int.toNat 8 = 256 from rfl, Int.fdiv_eq_ediv_of_nonneg _ (by omega)]
  rfl
theorem c_rounded (w : World) (n z : Int) (tn tz : Tok) (news : Led) (hz : 0 < z) (hz2 : z < 1000000) :
    Ctr w 94 [.int n tn, .int z tz] 1 8 news (fun r l => (∃ t, r = .int ((n + z - 1) / z) t) ∧ l = news) NoE := by
  walk_at "nz go"
  walk_at "nz end"
  exact ⟨⟨_, congrArg (Value.int · _) (Int.fdiv_eq_ediv_of_nonneg _ (by omega))⟩, rfl⟩
theorem kw2_Nz5 : True := by
  k_with "15 call ref" => k_extra "L20"
  k_with "15 call ref" => k_extra "L21"
  k_with "15 call ref" => k_extra "L22"
  k_with "15 nz side" => k_extra "L23"
  trivial
theorem c_word_a (w : World) (a : Addr) (b : Array UInt8) (ks : List Int) (k : Int) (tk : Tok) (rest : Led) (hb : KBw.bInts b = ks) (h0 : 0 ≤ k) (h1 : k + 3 < ks.length) (h2 : ks.length ≤ 2000) :
    Ctr w 73 [.ref a, .int k tk] 2 16 ((a, baObj b) :: rest) (fun r l => (∃ t, r = .int (wordI ks k.toNat) t) ∧ 0 ≤ wordI ks k.toNat ∧ wordI ks k.toNat < 4294967296 ∧ l = ((a, baObj b) :: rest)) NoE := by
  walk_at "nz go"
  walk_at "nz end"
  have e : (k + 2).toNat = k.toNat + 2 := by omega
  simp only [e] at *
  exact ⟨⟨_, congrArg (Value.int · _) (bitOr_low 16 (by omega) (by omega) (by omega))⟩, by unfold wordI; omega, by unfold wordI; omega, by trivial⟩
theorem c_word_b (w : World) (b : Array UInt8) (ks : List Int) (k : Int) (tb tk : Tok) (news : Led) (hb : KBw.bInts b = ks) (h0 : 0 ≤ k) (h1 : k + 3 < ks.length) (h2 : ks.length ≤ 2000) :
    Ctr w 73 [.bytes b tb, .int k tk] 2 16 news (fun r l => (∃ t, r = .int (wordI ks k.toNat) t) ∧ 0 ≤ wordI ks k.toNat ∧ wordI ks k.toNat < 4294967296 ∧ l = news) NoE := by
  walk_at "nz go"
  walk_at "nz end"
  have e : (k + 2).toNat = k.toNat + 2 := by omega
  simp only [e] at *
  exact ⟨⟨_, congrArg (Value.int · _) (bitOr_low 16 (by omega) (by omega) (by omega))⟩, by unfold wordI; omega, by unfold wordI; omega, by trivial⟩
theorem c_put_word (w : World) (a : Addr) (b : Array UInt8) (ks : List Int) (k v : Int) (tk tv : Tok) (rest : Led) (hr : ∀ q ∈ rest, q.1 ≠ a) (hb : KBw.bInts b = ks) (h0 : 0 ≤ k) (h1 : k + 3 < ks.length) (h2 : ks.length ≤ 2000) (h3 : 0 ≤ v) (h4 : v < 4294967296) :
    Ctr w 87 [.ref a, .int k tk, .int v tv] 2 16 ((a, baObj b) :: rest) (fun r l => r = .none ∧ ∃ b', KBw.bInts b' = putWord ks k.toNat v ∧ l = ((a, baObj b') :: rest)) NoE := by
  walk_at "nz go"
  walk_at "nz end"
  refine ⟨rfl, _, ?_, rfl⟩
  (rename KBw.bInts _ = putHalf (putHalf _ _ _) _ _ => q)
  rw [q, bitAnd_m16, bitAnd_m16, show (k + 2).toNat = k.toNat + 2 by omega, show (2 : Int) ^ Int.toNat 16 = 65536 from rfl, Int.fdiv_eq_ediv_of_nonneg _ (by omega)]
  rfl
end
section
theorem off_Nz6 : True := by
  w_top off
  trivial
open PySem PySem.W PySem.Calls PyProof.Rows PySem.Builtin
theorem npl {x y : Int} (h : y.natAbs ≤ 4294967296) : Builtin.divisionGoesByPylong x y = false := by
  refine PyProof.noPylong_of_log2 ?_
  by_cases h0 : y.natAbs = 0
  · rw [h0]; decide +kernel
  · have : y.natAbs.log2 < 33 := (Nat.log2_lt h0).mpr (Nat.lt_of_le_of_lt h (by decide))
    omega
section
variable {prog : Program} {w : World} {M : Model} {A : Around} {E : Value → Shared → Prop} {s : Shared} {h₀ : Heap} {L p : Addr} {m : Str → Option Value} {news : Led} {a b x : Int} {t u ta tb : Tok} {n : Nat}
theorem div_rule {Q : Value → Shared → Prop} (hb : 0 < b) (hb2 : b ≤ 4294967296) (h : Q (.int (a / b) s.toks) { s with toks := s.toks + 1 }) : wpAny (model prog w) A (binaryOp .FloorDiv (.int a t) (.int b u)) Q E s :=
  floordiv_int (by omega) (by rw [Int.fdiv_eq_ediv_of_nonneg _ (by omega)]; exact h) (.inl (npl (by omega)))
theorem mod_rule {Q : Value → Shared → Prop} (hb : 0 < b) (h : 0 ≤ a % b → a % b < b → Q (.int (a % b) s.toks) { s with toks := s.toks + 1 }) : wpAny (model prog w) A (binaryOp .Mod (.int a t) (.int b u)) Q E s :=
  mod_int (by omega) (by rw [Int.fmod_eq_emod_of_nonneg _ (by omega)]; exact h (Int.emod_nonneg _ (by omega)) (Int.emod_lt_of_pos _ hb))
abbrev poolObj (a b : Int) (ta tb : Tok) (n : Nat) : Obj := listOf #[.int a ta, .int b tb] n
theorem pool_list (ho : s.heap.get? p = some (poolObj a b ta tb n)) : s.heap.IsList p #[.int a ta, .int b tb] := ⟨_, ho, rfl, n, rfl⟩
theorem pool_get0 {value slice : Expr} {k : Int} {Q : Value → Shared → Prop} (hk : k = 0) (ho : s.heap.get? p = some (poolObj a b ta tb n)) (h : Q (.int a ta) s)
    (hs : subscripted slice false (.ref p) (.int k u) = operate [.ref p, .int k u] (getItem (.ref p) (.int k u))) :
    wpAny (model prog w) A (subscriptTail value slice (.ref p) (.int k u)) Q E s := by
  subst hk
  exact tail_any (pool_list ho).typeIs slot_list_getitem.lookup (wpAny_getItem_list (pool_list ho) (by decide) (by decide) rfl h) hs
theorem pool_get1 {value slice : Expr} {k : Int} {Q : Value → Shared → Prop} (hk : k = 1) (ho : s.heap.get? p = some (poolObj a b ta tb n)) (h : Q (.int b tb) s)
    (hs : subscripted slice false (.ref p) (.int k u) = operate [.ref p, .int k u] (getItem (.ref p) (.int k u))) :
    wpAny (model prog w) A (subscriptTail value slice (.ref p) (.int k u)) Q E s := by
  subst hk
  exact tail_any (pool_list ho).typeIs slot_list_getitem.lookup (wpAny_getItem_list (pool_list ho) (by decide) (by decide) rfl h) hs
theorem pool_gi1 {k : Int} {Q : Value → Shared → Prop} (hk : k = 1) (ho : s.heap.get? p = some (poolObj a b ta tb n)) (h : Q (.int b tb) s) :
    wpAny (model prog w) A (getItem (.ref p) (.int k u)) Q E s := by
  subst hk
  exact wpAny_getItem_list (pool_list ho) (by decide) (by decide) rfl h
theorem pool_set0 {k : Int} {Q : Unit → Shared → Prop} {g : Obj → Led} (hk : k = 0) (F : Fr h₀ L s.heap m) (N : News h₀ L s.heap news) (U : UpdF p (poolObj a b ta tb n) news g)
    (h : ∀ h', Fr h₀ L h' m → News h₀ L h' (g (poolObj x b u tb n)) → Q () { s with heap := h' }) : wpAny (model prog w) A (setItem (.ref p) (.int k t) (.int x u)) Q E s := by
  subst hk
  obtain ⟨pre, post, rfl, hg, u1, u2⟩ := U.split
  have z := N (p, poolObj a b ta tb n) (List.mem_append.mpr (.inr (.head _)))
  rw [hg] at h
  exact ki_setAt z.1 (by decide) (by decide) (by show (_ : Int) < 2; decide) (h _ (F.change (Heap.SameBut.update ..) z.2.1 z.2.2) (ki_turn _ N u1 u2 rfl rfl))
theorem pool_set1 {k : Int} {Q : Unit → Shared → Prop} {g : Obj → Led} (hk : k = 1) (F : Fr h₀ L s.heap m) (N : News h₀ L s.heap news) (U : UpdF p (poolObj a b ta tb n) news g)
    (h : ∀ h', Fr h₀ L h' m → News h₀ L h' (g (poolObj a x ta u n)) → Q () { s with heap := h' }) : wpAny (model prog w) A (setItem (.ref p) (.int k t) (.int x u)) Q E s := by
  subst hk
  obtain ⟨pre, post, rfl, hg, u1, u2⟩ := U.split
  have z := N (p, poolObj a b ta tb n) (List.mem_append.mpr (.inr (.head _)))
  rw [hg] at h
  exact ki_setAt z.1 (by decide) (by decide) (by show (_ : Int) < 2; decide) (h _ (F.change (Heap.SameBut.update ..) z.2.1 z.2.2) (ki_turn _ N u1 u2 rfl rfl))
end
end
section
local macro_rules | `(tactic| walk_at $s:str) => `(tactic| k_extra $(Lean.Syntax.mkStrLit ("17 " ++ s.getString)))
local macro_rules | `(tactic| walk_at "nz pad") => `(tactic| skip)
theorem off_Nz7 : True := by
  w_top off
  trivial
open PySem PySem.W PySem.Calls PyProof.Rows
theorem kw0_Nz7 : True := by
  k_with "17 nz pq" => k_extra "L0"
  k_with "17 nz pn" => k_extra "L1"
  k_with "17 nz pi" => k_extra "L2"
  k_with "17 nz pr" => k_extra "L3"
  k_with "17 nz oo" => k_extra "L4"
  k_with "17 nz zz" => k_extra "L5"
  k_with "17 nz om" => k_extra "L6"
  k_with "17 nz enter" => k_extra "L7"
  k_with "17 nz intro" => k_extra "L8"
  k_with "17 nz go" => k_extra "L9"
  k_with "17 nz end" => k_extra "L10"
  k_with "17 subscriptTail" => k_extra "L11"
  k_with "17 setItem ref int" => k_extra "L12"
  k_with "17 nz side" => k_extra "L13"
  k_with "17 nz pick" => k_extra "L14"
  k_with "17 nz sub" => k_extra "L15"
  k_with "17 nz news" => k_extra "L16"
  k_with "17 nz same" => k_extra "L17"
  k_with "17 nz out" => k_extra "L18"
  k_with "17 nz len" => k_extra "L19"
  k_with "17 binaryOp FloorDiv int int" => k_extra "L24"
  k_with "17 binaryOp Mod int int" => k_extra "L25"
  k_with "17 subscriptTail Name Constant ref int" => k_extra "L26"
  k_with "17 subscriptTail Name Constant ref int" => k_extra "L27"
  k_with "17 getItem ref int" => k_extra "L28"
  k_with "17 setItem ref int" => k_extra "L29"
  trivial
theorem c_take (w : World) (p : Addr) (a b : Int) (ta tb : Tok) (n : Nat) (rest : Led) (hr : ∀ q ∈ rest, q.1 ≠ p) (ha : 0 ≤ a) (hb : 0 ≤ b) (hb2 : b < 1000000) (many : Int) (tm : Tok) (h0 : 0 < many) (h1 : many ≤ 4294967296) :
    Ctr w 212 [.ref p, .int many tm] 1 8 ((p, poolObj a b ta tb n) :: rest) (fun r l => ∃ d t a' b' ta' tb', r = .int d t ∧ 0 ≤ d ∧ d < many ∧ 0 ≤ a' ∧ a' ≤ a ∧ b ≤ b' ∧ b' ≤ b + 1 ∧ l = ((p, poolObj a' b' ta' tb' n) :: rest)) NoE := by
  walk_at "nz go"
  · walk_at "nz end"
    exact ⟨_, _, _, _, _, _, rfl, by assumption, by assumption, Int.ediv_nonneg ha (by omega), Int.ediv_le_self _ ha, Int.le_refl _, by omega, rfl⟩
  · walk_at "nz end"
    exact ⟨_, _, _, _, _, _, rfl, by assumption, by assumption, ha, Int.le_refl _, by omega, by omega, rfl⟩
end
section
theorem off_Nz8 : True := by
  w_top off
  trivial
open PySem PySem.W PySem.Calls PyProof.Rows PySem.Builtin
def Same (s₀ s : Shared) : Prop := s.gens = s₀.gens ∧ s.drawn = s₀.drawn ∧ s.os = s₀.os
theorem Same.refl {s : Shared} : Same s s := ⟨rfl, rfl, rfl⟩
theorem Same.trans {a b c : Shared} (x : Same a b) (y : Same b c) : Same a c := ⟨y.1.trans x.1, y.2.1.trans x.2.1, y.2.2.trans x.2.2⟩
theorem Same.of {s : Shared} {h : Heap} {tk : Nat} : Same s { s with heap := h, toks := tk } := ⟨rfl, rfl, rfl⟩
section
variable {prog : Program} {w : World} {M : Model} {A : Around} {E : Value → Shared → Prop} {s : Shared} {env : Env}
theorem wpC_execs_nil {Q : Flow → Shared → Prop} (h : Q .next s) : wpC M A (execs [] env) Q E s := fun _ _ _ _ => h
theorem wpC_execs_cons {st : Stmt} {rest : List Stmt} {Q : Flow → Shared → Prop}
    (h : wpC M A (exec st env) (fun f s' => match f with | .next => wpC M A (execs rest env) Q E s' | f => Q f s') E s) :
    wpC M A (execs (st :: rest) env) Q E s := fun Γ p hΓ hc => by
  rw [execs_cons, Sem.wp_bind']
  refine Sem.wp_mono M Γ _ (fun f p' s' h' => ?_) (fun _ _ _ h' => h') _ _ (h Γ p hΓ hc)
  cases f <;> first | exact h' Γ p' hΓ hc | exact h'
theorem wpC_runOwn {c : Code} {Q : Flow → Shared → Prop} (hcc : calmC c = true)
    (hc : codeC M A c (fun r s' => match r with | .ok f => Q f s' | .error e => False) s) : wpC M A (runOwn c env) Q E s := by
  unfold runOwn
  refine wpC_onRaise (wpC_run (A := A) (h := none) (codeC_mono hc fun r s' g => ?_) hcc (by intro x; cases x))
  cases r with
  | ok f => exact g
  | error e => exact g.elim
theorem wpC_For {target iter : Expr} {body orelse : List Stmt} {pos : Pos} {Q : Flow → Shared → Prop}
    (h : wpC M A (eval iter env) (fun x s₁ => wpAny M A (pyIter x) (fun it s₂ =>
      codeC M A (.forLoop target it body orelse env) (fun r s' => match r with | .ok f => Q f s' | .error e => False) s₂) E s₁) E s)
    (hs : ∀ x, foldedSetIterable iter env x = pure x := by intro _; rfl) :
    wpC M A (exec (.For target iter body orelse pos) env) Q E s := by
  rw [exec_For]
  refine wpC_bind (wpC_any (wpAny_standAt (wpC_bind (wpC_mono h (fun x s₁ h₁ => ?_) fun _ _ h' => h'))))
  refine wpC_bind (wpC_any (wpAny_of_eq (hs x) (wpC_bind (wpC_any (wpAny_standAt (wpC_bind (wpC_holding (wpC_mono (wpC_any h₁) (fun it s₂ h₂ => ?_) fun _ _ h' => h'))))))))
  exact wpC_runOwn rfl h₂
/-- a for over an iterator I of n items, whatever it is -/
theorem forC_core {x : Str} {pos : Pos} {body : List Stmt} {g : Heap} {L I : Addr} {Q : Flow → Shared → Prop} {s₀ : Shared} (n : Nat) (itAt : Nat → Obj → Prop) (item : Nat → Value → Prop)
    (J : Nat → (Str → Option Value) → Led → Prop) (hM : M = model prog w)
    (hx : ∀ m s v, Fr g L s.heap m → ∀ led, News g L s.heap led → ∀ (P : Unit → Shared → Prop) (E : Value → Shared → Prop), (∀ h' tk, Fr g L h' (fun y => if y = x then some v else m y) → News g L h' led → P () { s with heap := h', toks := tk }) → wpAny M A (storeName env x v) P E s)
    (next : ∀ i s o m led (P : Option Value → Shared → Prop) (E : Value → Shared → Prop), i < n → s.heap.get? I = some o → itAt i o → J i m led → News g L s.heap led →
      (∀ v h' o' tk, item i v → h'.get? I = some o' → itAt (i + 1) o' → Heap.SameBut I s.heap h' → P (some v) { s with heap := h', toks := tk }) → wpAny M A (pyNext (.ref I)) P E s)
    (last : ∀ s o m led (P : Option Value → Shared → Prop) (E : Value → Shared → Prop), s.heap.get? I = some o → itAt n o → J n m led → News g L s.heap led →
      (∀ h', Heap.ExtBut I s.heap h' → P none { s with heap := h' }) → wpAny M A (pyNext (.ref I)) P E s)
    (turn : ∀ i v m led o s, i < n → item i v → J i m led → (∀ p ∈ led, p.1 ≠ I) → Fr g L s.heap (fun y => if y = x then some v else m y) → News g L s.heap ((I, o) :: led) → Same s₀ s →
      wpC M A (execs body env) (fun fl s' => match fl with
        | .ret v => Q (.ret v) s'
        | .brk => Q .next s'
        | _ => ∃ m' led', Fr g L s'.heap m' ∧ News g L s'.heap ((I, o) :: led') ∧ (∀ p ∈ led', p.1 ≠ I) ∧ J (i + 1) m' led' ∧ Same s₀ s') (fun _ _ => False) s)
    (done : ∀ m led s, J n m led → Fr g L s.heap m → News g L s.heap led → Same s₀ s → Q .next s) :
    ∀ (k i : Nat) (m : Str → Option Value) (led : Led) (o : Obj) (s : Shared), n - i = k → i ≤ n → J i m led → itAt i o → (∀ p ∈ led, p.1 ≠ I) → Fr g L s.heap m → News g L s.heap ((I, o) :: led) → Same s₀ s →
      codeC M A (.forLoop (.Name x pos) (.ref I) body [] env) (fun r s' => match r with | .ok f => Q f s' | .error e => False) s := by
  intro k
  induction k with
  | zero =>
    intro i m led o s hk hi hJ hit hoff F N hS
    obtain rfl : i = n := by omega
    refine codeC_of_tree ?_
    rw [Around.under_of_weight (by rfl)]
    subst hM
    show wpC _ A ((forTurn (.Name x pos) (.ref I) body [] env).onRaise _) _ _ s
    refine wpC_onRaise ?_
    unfold forTurn
    refine wpC_any (wpAny_bind (wpAny_standAt (wpAny_bind (wpAny_onRaise (last s o m led _ _ (N _ (.head _)).1 hit hJ (fun p hp => N p (.tail _ hp)) fun h' hx' => ?_)))))
    refine wpAny_pure ⟨rfl, rfl, ?_⟩
    refine codeC_of_tree (wpC_any ?_)
    rw [Around.under_of_weight (by rfl)]
    show wpAny _ A ((execs [] env).onRaise _ >>= fun f => pure (Fin.done f)) _ _ _
    refine wpAny_bind (wpAny_onRaise (wpAny_execs_nil (wpAny_pure ?_)))
    have nI : ∀ p ∈ led, p.1 ≠ I := hoff
    have zI := N (I, o) (.head _)
    obtain ⟨oL, es, ep, hL, r⟩ := F.ns
    refine done m led _ hJ ⟨⟨oL, es, ep, hx' L oL (Ne.symm zI.2.1) hL, r⟩, fun b o' e => hx' b o' (fun q => by have := zI.2.2; subst q; rw [e] at this; cases this) (F.keep b o' e), F.above⟩
      (fun p hp => ⟨hx' _ _ (nI p hp) (N p (.tail _ hp)).1, (N p (.tail _ hp)).2⟩) (hS.trans Same.of)
  | succ k ih =>
    intro i m led o s hk hi hJ hit hoff F N hS
    have hlt : i < n := by omega
    refine codeC_of_tree ?_
    rw [Around.under_of_weight (by rfl)]
    subst hM
    show wpC _ A ((forTurn (.Name x pos) (.ref I) body [] env).onRaise _) _ _ s
    refine wpC_onRaise ?_
    unfold forTurn
    have zI := N (I, o) (.head _)
    refine wpC_bind (wpC_any (wpAny_standAt (wpC_bind (wpC_any (wpAny_onRaise (next i s o m led _ _ hlt zI.1 hit hJ (fun p hp => N p (.tail _ hp)) fun v h' o' tk hv ho' hit' hsb => ?_))))))
    dsimp only
    refine wpC_bind (wpC_any ?_)
    show wpAny _ A (pure ()) _ _ _
    refine wpAny_pure (wpC_bind (wpC_any ?_))
    rw [PySem.assign_Name]
    have F' : Fr g L h' m := F.change hsb (fun q => zI.2.1 q) zI.2.2
    have N' : News g L h' ((I, o') :: led) := fun p hp => by
      rcases List.mem_cons.mp hp with rfl | hp
      · exact ⟨ho', zI.2⟩
      · exact ⟨(hsb.2 p.1 (hoff p hp)).trans (N p (.tail _ hp)).1, (N p (.tail _ hp)).2⟩
    refine wpAny_bind (wpAny_standAt (wpAny_bindName (hx m { s with heap := h', toks := tk } v F' _ N' _ _ fun h2 tk2 F2 N2 => ?_)))
    refine wpC_bind (wpC_mono (turn i v m led o' { s with heap := h2, toks := tk2 } hlt hv hJ hoff F2 N2 (hS.trans Same.of)) (fun fl s' q => ?_) fun _ _ e => e.elim)
    cases fl with
    | ret v => exact wpC_pure q
    | brk => exact wpC_pure q
    | next =>
      obtain ⟨m3, led3, F3, N3, off3, J3, S3⟩ := q
      exact wpC_pure ⟨rfl, rfl, ih (i + 1) m3 led3 o' s' (by omega) hlt J3 hit' off3 F3 N3 S3⟩
    | cont =>
      obtain ⟨m3, led3, F3, N3, off3, J3, S3⟩ := q
      exact wpC_pure ⟨rfl, rfl, ih (i + 1) m3 led3 o' s' (by omega) hlt J3 hit' off3 F3 N3 S3⟩
end
end
section
theorem off_Nz9 : True := by
  w_top off
  trivial
open PySem PySem.W PySem.Calls PyProof.Rows PySem.Builtin
section
variable {prog : Program} {w : World} {M : Model} {A : Around} {E : Value → Shared → Prop} {s : Shared} {env : Env}
theorem wpC_standAt {α : Type} {p : Pos} {t : Sem α} {Q : α → Shared → Prop} (h : wpC M A t Q E s) : wpC M A (standAt p >>= fun _ => t) Q E s :=
  wpC_bindA (wpAny_standAt h)
theorem wpC_Assign_Name {x pos' value pos} {Q : Flow → Shared → Prop}
    (h : wpC M A (eval value env) (fun v s₁ => wpAny M A (storeName env x v) (fun _ => Q .next) E s₁) E s)
    (hs : swapsWith value (some (.Name x pos')) pos.line env = pure false := by rfl) :
    wpC M A (exec (.Assign [.Name x pos'] value pos) env) Q E s := by
  rw [exec_Assign_Name env x pos' value pos hs]
  refine wpC_standAt (wpC_bind (wpC_mono h (fun v s₁ h₁ => ?_) fun _ _ x => x))
  exact wpC_standAt (wpC_any (wpAny_bind (wpAny_bindName (wpAny_mono h₁ (fun _ _ h₂ => wpAny_pure h₂) fun _ _ x => x))))
theorem wpC_Expr {e pos} {Q : Flow → Shared → Prop} (h : wpC (model prog w) A (eval e env) (fun _ => Q .next) E s)
    (hi : interactive env = false := by rfl) (hs : swapsWith e none pos.line env = pure false := by rfl) :
    wpC (model prog w) A (exec (.Expr e pos) env) Q E s := by
  rw [exec_Expr env e pos hi hs]
  exact wpC_standAt (wpC_bind (wpC_mono h (fun v s' h' => wpC_any (wpAny_dropValue h')) fun _ _ x => x))
theorem wpC_If {test body orelse pos} {Q : Flow → Shared → Prop}
    (h : wpC M A (isTrue test env (eval test env))
      (fun b s₂ => if b then wpC M A (execs body env) Q E s₂ else wpC M A (execs orelse env) Q E s₂) E s) :
    wpC M A (exec (.If test body orelse pos) env) Q E s := by
  rw [exec_If]
  refine wpC_standAt (wpC_bind (wpC_mono h (fun b s₂ h₂ => ?_) fun _ _ x => x))
  cases b <;> exact h₂
theorem wpC_Return {e pos} {Q : Flow → Shared → Prop} (h : wpC M A (eval e env) (fun v => Q (.ret v)) E s) :
    wpC M A (exec (.Return (some e) pos) env) Q E s := by
  rw [exec_Return_some]
  exact wpC_standAt (wpC_bind (wpC_mono h (fun v s' h' => wpC_pure h') fun _ _ x => x))
theorem wpC_isTrue_Compare1 {l op r pos whole} {Q : Bool → Shared → Prop}
    (h : wpC M A (eval l env) (fun a s₁ => wpC M A (eval r env) (fun b s₂ => wpC M A (compareOp op a b)
      (fun c s₃ => wpAny M A (truthy c) Q E s₃) E s₂) E s₁) E s)
    (hm : behindInMarks op r = false := by with_unfolding_all rfl) : wpC M A (isTrue (.Compare l [op] [r] pos) env whole) Q E s := by
  rw [isTrue_Compare1, markedBehindIn_of_false hm]
  refine wpC_bind (wpC_mono h (fun a s₁ h₁ => ?_) fun _ _ x => x)
  refine wpC_bind (wpC_holding (wpC_mono h₁ (fun b s₂ h₂ => ?_) fun _ _ x => x))
  refine wpC_standAt (wpC_bind ?_)
  show wpC M A (operate [a, b] (compareOp op a b)) _ E s₂
  intro Γ p hΓ hC
  rw [Sem.wp_operate]
  exact Sem.wp_mono M Γ _ (fun c p₃ s₃ h₃ Γ' p' hΓ' hC' => wpC_holding (wpC_any h₃) Γ' p' hΓ' hC') (fun _ _ _ x => x) _ _ (h₂ Γ p hΓ hC)
theorem wpC_Compare1 {l op r pos} {Q : Value → Shared → Prop}
    (h : wpC M A (eval l env) (fun a s₁ => wpC M A (eval r env) (fun b s₂ => wpC M A (compareOp op a b) Q E s₂) E s₁) E s)
    (hm : behindInMarks op r = false := by with_unfolding_all rfl) : wpC M A (eval (.Compare l [op] [r] pos) env) Q E s := by
  rw [eval_Compare1, markedBehindIn_of_false hm]
  refine wpC_bind (wpC_mono h (fun a s₁ h₁ => ?_) fun _ _ x => x)
  refine wpC_bind (wpC_holding (wpC_mono h₁ (fun b s₂ h₂ => ?_) fun _ _ x => x))
  refine wpC_standAt ?_
  intro Γ p hΓ hC
  rw [Sem.wp_operate]
  exact h₂ Γ p hΓ hC
theorem wpC_BinOp {l op r pos} {Q : Value → Shared → Prop}
    (h : wpC M A (eval l env) (fun a s₁ => wpC M A (eval r env) (fun b s₂ => wpC M A (binaryOp op a b) Q E s₂) E s₁) E s) :
    wpC M A (eval (.BinOp l op r pos) env) Q E s := by
  rw [eval_BinOp]
  refine wpC_bind (wpC_mono h (fun a s₁ h₁ => ?_) fun _ _ x => x)
  refine wpC_bind (wpC_holding (wpC_mono h₁ (fun b s₂ h₂ => ?_) fun _ _ x => x))
  refine wpC_standAt ?_
  intro Γ p hΓ hC
  rw [Sem.wp_operate]
  exact h₂ Γ p hΓ hC
theorem wpC_isTrue_not {x pos whole} {Q : Bool → Shared → Prop} (h : wpC M A (isTrue x env (eval x env)) (fun c s' => Q (!c) s') E s) :
    wpC M A (isTrue (.UnaryOp .Not x pos) env whole) Q E s := by
  show wpC M A (do return !(← isTrue x env (eval x env))) Q E s
  exact wpC_bind (wpC_mono h (fun c s' h' => wpC_pure h') fun _ _ x => x)
theorem wpC_isTrue_and_nil {pos whole} {Q : Bool → Shared → Prop} (h : Q true s) : wpC M A (isTrue (.BoolOp .And [] pos) env whole) Q E s := wpC_pure (a := true) h
theorem wpC_isTrue_or_nil {pos whole} {Q : Bool → Shared → Prop} (h : Q false s) : wpC M A (isTrue (.BoolOp .Or [] pos) env whole) Q E s := wpC_pure (a := false) h
theorem wpC_isTrue_and {x rest pos whole} {Q : Bool → Shared → Prop}
    (h : wpC M A (isTrue x env (eval x env)) (fun c s' => if c then wpC M A (isTrue (.BoolOp .And rest pos) env whole) Q E s' else Q false s') E s) :
    wpC M A (isTrue (.BoolOp .And (x :: rest) pos) env whole) Q E s := by
  show wpC M A (do
    match BoolOp.And, ← isTrue x env (eval x env) with
    | .And, false => pure false
    | .Or, true => pure true
    | _, _ => allTrue .And rest env) Q E s
  refine wpC_bind (wpC_mono h (fun c s' h' => ?_) fun _ _ x => x)
  cases c with
  | false => exact wpC_pure h'
  | true => exact h'
theorem wpC_isTrue_or {x rest pos whole} {Q : Bool → Shared → Prop}
    (h : wpC M A (isTrue x env (eval x env)) (fun c s' => if c then Q true s' else wpC M A (isTrue (.BoolOp .Or rest pos) env whole) Q E s') E s) :
    wpC M A (isTrue (.BoolOp .Or (x :: rest) pos) env whole) Q E s := by
  show wpC M A (do
    match BoolOp.Or, ← isTrue x env (eval x env) with
    | .And, false => pure false
    | .Or, true => pure true
    | _, _ => allTrue .Or rest env) Q E s
  refine wpC_bind (wpC_mono h (fun c s' h' => ?_) fun _ _ x => x)
  cases c with
  | false => exact h'
  | true => exact wpC_pure h'
theorem wpC_isTrue_plain {e : Expr} {whole : Sem Value} {Q : Bool → Shared → Prop} (h : wpC M A whole (fun v s₁ => wpAny M A (truthy v) Q E s₁) E s)
    (he : isTrue e env whole = (do let v ← whole; standAt e.pos; holding [v] (truthy v)) := by rfl) : wpC M A (isTrue e env whole) Q E s := by
  rw [he]
  exact wpC_bind (wpC_mono h (fun v s₁ h₁ => wpC_standAt (wpC_holding (wpC_any h₁))) fun _ _ x => x)
theorem wpC_Call {func : Expr} {args : List Expr} {pos : Pos} {Q : Value → Shared → Prop}
    (h : wpAny M A (eval func env) (fun f s₁ => wpC M A (callWith pos f [] (backTo pos (starEach args env)) []) Q E s₁) E s)
    (he : eval (.Call func args [] pos) env = (do callWith pos (← eval func env) [] (backTo pos (starEach args env)) (backToKw pos (keywordEach [] env))) := by rfl) :
    wpC M A (eval (.Call func args [] pos) env) Q E s := by
  rw [he]; exact wpC_bindA h
theorem wpC_MethodCall {o : Expr} {name : Str} {apos pos : Pos} {args : List Expr} {pl : Sem Bool} {Q : Value → Shared → Prop}
    (h : wpAny M A (eval o env) (fun ov s₁ => wpAny M A (getMethod ov name pl) (fun fx s₂ => wpC M A (callWith pos fx.1 fx.2 (backTo pos (starEach args env)) []) Q E s₂) E s₁) E s)
    (he : eval (.Call (.Attribute o name apos) args [] pos) env = (do
      let ov ← eval o env
      standAt apos.atName
      let (f, first) ← holding [ov] (getMethod ov name pl)
      callWith pos f first (backTo pos (starEach args env)) []) := by rfl) :
    wpC M A (eval (.Call (.Attribute o name apos) args [] pos) env) Q E s := by
  rw [he]
  refine wpC_bindA (wpAny_mono h (fun ov s₁ h₁ => wpC_standAt (wpC_bind (wpC_holding (wpC_any (wpAny_mono h₁ (fun fx s₂ h₂ => ?_) fun _ _ x => x))))) fun _ _ x => x)
  exact h₂
theorem wpC_spliced_nil {Q : List Value → Shared → Prop} (h : Q [] s) : wpC M A (spliced []) Q E s := wpC_pure h
theorem wpC_spliced_cons {x : Sem Value} {rest : List (Bool × Sem Value)} {Q : List Value → Shared → Prop}
    (h : wpC M A x (fun v s₁ => wpC M A (spliced rest) (fun vs s₂ => Q (v :: vs) s₂) E s₁) E s) : wpC M A (spliced ((false, x) :: rest)) Q E s := by
  rw [spliced]
  refine wpC_bind (wpC_mono h (fun v s₁ h₁ => ?_) fun _ _ x => x)
  simp only [Bool.false_eq_true, if_false]
  exact wpC_bind (wpC_pure (wpC_bind (wpC_holding (wpC_mono h₁ (fun vs s₂ h₂ => wpC_pure h₂) fun _ _ x => x))))
theorem wpC_evalArgs {f : Value} {x : Sem Value} {rest : List (Bool × Sem Value)} {Q : Args → Shared → Prop}
    (h : wpC M A (spliced ((false, x) :: rest)) (fun vs s' => Q ⟨vs, []⟩ s') E s) : wpC M A (evalArgs f true ((false, x) :: rest) []) Q E s := by
  unfold evalArgs
  show wpC M A (spliced ((false, x) :: rest) >>= _) Q E s
  refine wpC_bind (wpC_mono h (fun vs s' h' => ?_) fun _ _ x => x)
  refine wpC_bind (wpC_pure ?_)
  refine wpC_holding ?_
  exact wpC_bind (wpC_pure (wpC_bind (wpC_pure (wpC_pure h'))))
theorem wpC_args_nil {pos : Pos} {Q : List Value → Shared → Prop} (h : Q [] s) : wpC M A (spliced (backTo pos (starEach [] env))) Q E s := wpC_spliced_nil h
theorem wpC_args_cons {e : Expr} {rest : List Expr} {pos : Pos} {Q : List Value → Shared → Prop}
    (h : wpC M A (eval e env) (fun v s₁ => wpC M A (spliced (backTo pos (starEach rest env))) (fun vs s₂ => Q (v :: vs) s₂) E s₁) E s)
    (he : starEach (e :: rest) env = (false, eval e env) :: starEach rest env := by rfl) : wpC M A (spliced (backTo pos (starEach (e :: rest) env))) Q E s := by
  rw [he]; exact wpC_spliced_cons h
theorem wpC_callWith_of {f : Value} {first : List Value} {pos : Pos} {P : Heap → Prop} {args : List (Bool × Sem Value)} {keywords : List (Option Str × Sem Value)} {Q : Value → Shared → Prop} (hplain : (args.any (·.1) || keywords.any (·.1.isNone)) = false)
    (hk : ∀ h, P h → ∃ k, (k = Keeper.frame ∨ k = Keeper.machine ∨ k = Keeper.boundFrame) ∧ Looks M h (keeperOf f) k)
    (h : wpC M A (evalArgs f true args keywords) (fun a s₁ => P s₁.heap ∧ wpC M A (call f (first ++ a.pos) a.kw) Q E s₁) E s) : wpC M A (callWith pos f first args keywords) Q E s := by
  unfold callWith
  refine wpC_bind (wpC_holding (wpC_mono h (fun a s₁ h₁ => wpC_standAt ?_) fun _ _ x => x))
  obtain ⟨k, hk', L⟩ := hk _ h₁.1
  simp only [hplain]
  refine wpC_bindA (L.here ?_)
  have tail : ∀ {t : Sem Value}, wpC M A t Q E s₁ → wpC M A (t >>= fun r => holding [r] point >>= fun _ => pure r) Q E s₁ :=
    fun ht => wpC_bind (wpC_mono ht (fun r s₂ hr => wpC_bind (wpC_holding (wpC_any (wpAny_point (wpC_pure hr))))) fun _ _ x => x)
  have marked (mk : Value) : wpC M A (callMarked mk f (first ++ a.pos) a.kw) Q E s₁ := by unfold callMarked; exact wpC_keep h₁.2
  rcases hk' with rfl | rfl | rfl <;> dsimp only <;> first | exact tail h₁.2 | (split <;> first | exact tail h₁.2 | exact tail (marked _))
theorem wpC_evalArgs_nil {f : Value} {Q : Args → Shared → Prop} (h : Q ⟨[], []⟩ s) : wpC M A (evalArgs f true [] []) Q E s := wpC_any (evalArgs_nil3 h)
/-- a call of the text's own def -/
theorem wpC_callWith_K {K : Frag} {h₀ : Heap} {f : Value} {first : List Value} {pos : Pos} {e : Expr} {rest : List Expr} {Q : Value → Shared → Prop} (hk : keepIn K f = true) (h : wpC M A (spliced (backTo pos (starEach (e :: rest) env))) (fun vs s₁ => K.In s₁.heap ∧ wpC M A (call f (first ++ vs)) Q E s₁) E s)
    (he : starEach (e :: rest) env = (false, eval e env) :: starEach rest env := by rfl) (hplain : (backTo pos (starEach rest env)).any (·.1) = false := by rfl) :
    wpC M A (callWith pos f first (backTo pos (starEach (e :: rest) env)) []) Q E s := by
  rw [he] at h ⊢
  exact wpC_callWith_of (by show ((false || (backTo pos (starEach rest env)).any (·.1)) || false) = false; rw [hplain]; rfl) (keeps_K hk) (wpC_evalArgs h)
theorem wpC_callWith_M {K : Frag} {h₀ : Heap} {q g : Addr} {self : Value} {first : List Value} {pos : Pos} {Q : Value → Shared → Prop} (X : MethP K q g self s.heap) (hf : fnIn K g = true) (h : wpC M A (call (.ref q) (first ++ [])) Q E s) : wpC M A (callWith pos (.ref q) first (backTo pos (starEach [] env)) []) Q E s :=
  wpC_callWith_of rfl (keeps_M hf) (wpC_evalArgs_nil ⟨X, h⟩)
theorem wpC_callWith_K0 {K : Frag} {f : Value} {first : List Value} {pos : Pos} {Q : Value → Shared → Prop} (X : K.In s.heap) (hk : keepIn K f = true) (h : wpC M A (call f (first ++ [])) Q E s) : wpC M A (callWith pos f first (backTo pos (starEach [] env)) []) Q E s :=
  wpC_callWith_of rfl (keeps_K hk) (wpC_evalArgs_nil ⟨X, h⟩)
theorem looks_type (T : String) (h : Heap) : ∃ k, (k = Keeper.frame ∨ k = Keeper.machine ∨ k = Keeper.boundFrame) ∧ Looks M h (keeperOf (.type T)) k := ⟨.machine, .inr (.inl rfl), Looks.of_pure rfl⟩
theorem looks_builtin (T : String) (h : Heap) : ∃ k, (k = Keeper.frame ∨ k = Keeper.machine ∨ k = Keeper.boundFrame) ∧ Looks M h (keeperOf (.builtin T)) k := ⟨.machine, .inr (.inl rfl), Looks.of_pure rfl⟩
theorem wpC_callWith_type0 {T : String} {pos : Pos} {Q : Value → Shared → Prop} (h : wpC M A (call (.type T) []) Q E s) : wpC M A (callWith pos (.type T) [] (backTo pos (starEach [] env)) []) Q E s :=
  wpC_callWith_of (P := fun _ => True) rfl (fun h _ => looks_type T h) (wpC_evalArgs_nil ⟨trivial, h⟩)
theorem wpC_callWith_type1 {T : String} {pos : Pos} {e : Expr} {rest : List Expr} {Q : Value → Shared → Prop} (h : wpC M A (spliced (backTo pos (starEach (e :: rest) env))) (fun vs s₁ => wpC M A (call (.type T) vs) Q E s₁) E s)
    (he : starEach (e :: rest) env = (false, eval e env) :: starEach rest env := by rfl) (hplain : (backTo pos (starEach rest env)).any (·.1) = false := by rfl) :
    wpC M A (callWith pos (.type T) [] (backTo pos (starEach (e :: rest) env)) []) Q E s := by
  rw [he] at h ⊢
  exact wpC_callWith_of (P := fun _ => True) (by show ((false || (backTo pos (starEach rest env)).any (·.1)) || false) = false; rw [hplain]; rfl) (fun h _ => looks_type T h) (wpC_evalArgs (wpC_mono h (fun _ _ x => ⟨trivial, x⟩) fun _ _ x => x))
theorem wpC_callWith_builtin1 {T : String} {first : List Value} {pos : Pos} {e : Expr} {rest : List Expr} {Q : Value → Shared → Prop} (h : wpC M A (spliced (backTo pos (starEach (e :: rest) env))) (fun vs s₁ => wpC M A (call (.builtin T) (first ++ vs)) Q E s₁) E s)
    (he : starEach (e :: rest) env = (false, eval e env) :: starEach rest env := by rfl) (hplain : (backTo pos (starEach rest env)).any (·.1) = false := by rfl) :
    wpC M A (callWith pos (.builtin T) first (backTo pos (starEach (e :: rest) env)) []) Q E s := by
  rw [he] at h ⊢
  exact wpC_callWith_of (P := fun _ => True) (by show ((false || (backTo pos (starEach rest env)).any (·.1)) || false) = false; rw [hplain]; rfl) (fun h _ => looks_builtin T h) (wpC_evalArgs (wpC_mono h (fun _ _ x => ⟨trivial, x⟩) fun _ _ x => x))
end
end
section
theorem off_NzB : True := by
  w_top off
  trivial
open PySem PySem.W PySem.Calls PyProof.Rows PySem.Builtin
theorem ba_mro : mroOf (.type "bytearray") = pure [.type "bytearray", .type "object"] := by rw [mroOf_type]; kernel_rfl
theorem ba_lookup_new : typeLookup (.type "bytearray") "__new__" = pure (some (.builtin "bytearray.__new__")) := by rw [typeLookup_type, builtinLookup_eq_fast]; kernel_rfl
theorem ba_slot_init : Slot "bytearray" "__init__" "bytearray.__init__" :=
  .of (owner := "bytearray") (n := "__init__") (by rw [typeLookup_type, builtinLookup_eq_fast]; kernel_rfl) (by decide +kernel) (by decide +kernel) (by decide +kernel)
    (by first | exact .inl (by decide +kernel) | exact .inr (by decide +kernel)) (by rw [isSubtype_type]; kernel_rfl)
theorem ba_called : TypeCalled "bytearray" "bytearray.__new__" "bytearray.__init__" :=
  ⟨by decide +kernel, by decide +kernel, ⟨_, _, ba_mro⟩, madeBy_type ba_mro ba_lookup_new (by decide +kernel), by decide +kernel, by rw [isSubtype_type]; kernel_rfl, ba_slot_init⟩
theorem ba_typeCall0 : checkTypeCall "bytearray" ⟨[], []⟩ = pure () := by kernel_rfl
theorem ba_typeCall1 (a : Value) : checkTypeCall "bytearray" ⟨[a], []⟩ = pure () := by kernel_rfl
theorem ba_newCall0 : checkBuiltinCall "bytearray.__new__" ⟨[.type "bytearray"], []⟩ = pure () := by kernel_rfl
theorem ba_newCall1 (a : Value) : checkBuiltinCall "bytearray.__new__" ⟨[.type "bytearray", a], []⟩ = pure () := by kernel_rfl
theorem ba_entry_new : entryFor table "bytearray.__new__" = some Builtin.«list.__new__» := entryFor_alias (id' := "list.__new__") (by rw [fastTable_eq_tree]; kernel_rfl) (by kernel_rfl) (by kernel_rfl) (by rw [fastTable_eq_tree]; kernel_rfl)
theorem ba_plain_new : plainId "bytearray.__new__" = true := by decide +kernel
theorem ba_entry_init : entryFor table "bytearray.__init__" = some Builtin.«bytearray.__init__» := entryFor_of_tree (by kernel_rfl)
theorem ba_plain_init : plainId "bytearray.__init__" = true := by decide +kernel
set_option maxRecDepth 1000000 in
set_option maxHeartbeats 4000000 in
theorem ba_owner_new : ("bytearray.__new__".splitOn ".__new__").headD "" = "bytearray" := by simp +decide [String.splitOn, String.splitOnAux]
theorem ba_lookup_release : typeLookup (.type "bytearray") (Str.ofString "__release_buffer__") = pure (some (.builtin "bytearray.__release_buffer__")) := by rw [typeLookup_type, builtinLookup_eq_fast]; kernel_rfl
theorem ba_args_init0 (a : Value) : argsOk "bytearray.__init__" ⟨[a], []⟩ := by unfold argsOk; kernel_rfl
theorem ba_args_init1 (a b : Value) : argsOk "bytearray.__init__" ⟨[a, b], []⟩ := by unfold argsOk; kernel_rfl
section
variable {prog : Program} {w : World} {A : Around} {E : Value → Shared → Prop} {s : Shared}
theorem ba_code_new {args : List Value} (hc : checkBuiltinCall "bytearray.__new__" ⟨.type "bytearray" :: args, []⟩ = pure ()) {Q₁ : Value → Shared → Prop}
    (h : Q₁ (.ref s.heap.objs.size) { s with heap := s.heap.push (baObj #[]) }) :
    codeAny (model prog w) A (.call (.builtin "bytearray.__new__") ⟨.type "bytearray" :: args, []⟩) (wants Q₁ E) s := by
  refine codeAny_of_tree ?_
  show wpAny _ A.in1 (do checkBuiltinCall "bytearray.__new__" ⟨.type "bytearray" :: args, []⟩; again (.builtin "bytearray.__new__" ⟨.type "bytearray" :: args, []⟩)) _ _ s
  refine wpAny_bind (wpAny_of_eq hc (wpAny_pure ⟨plainId_quiet ba_plain_new _, codeAny_builtin_stack ba_entry_new rfl fun p st => ?_⟩))
  rw [Around.under_plainId ba_plain_new _]
  have hsub := PySem.F.isi_self_bytearray
  have hown := ba_owner_new
  obtain ⟨hp, g, d, tk, os⟩ := s
  simp only [hown]
  wp_walk
  exact h
theorem wpC_call_entry {T : String} {name : Str} {id : String} {b : Builtin} {self : Value} {rest : List Value} {Q : Value → Shared → Prop} (h : Slot T name id) (hT : s.TypeIs self T)
    (hb : entryFor table id = some b) (hq : calmC (.builtin id ⟨self :: rest, []⟩) = true)
    (hc : wpC (model prog w) A.in1 (b ⟨self :: rest, []⟩) (fun fin s' => ∃ v, fin = .done (.ret v) ∧ Q v s') E s)
    (ha : argsOk id ⟨self :: rest, []⟩) :
    wpC (model prog w) A (call (.builtin id) (self :: rest)) Q E s := by
  refine wpC_call (codeC_of_tree ?_)
  show wpC _ A.in1 (do checkBuiltinCall id ⟨self :: rest, []⟩; again (.builtin id ⟨self :: rest, []⟩)) _ _ s
  refine wpC_bindA (h.check _ _ _ _ _ _ _ _ hT ha (wpC_pure ⟨plainId_quiet h.plain _, hq, codeC_of_tree ?_⟩))
  show wpC _ (A.under (.builtin id ⟨self :: rest, []⟩)) (match entryFor table id with | some b => b ⟨self :: rest, []⟩ | none => unsupported ((withoutEnding? id "#data").getD id)) _ _ s
  rw [hb, Around.under_plainId h.plain]
  refine wpC_mono hc (fun fin s' h' => ?_) fun _ _ h' => h'
  obtain ⟨v, rfl, hv⟩ := h'; exact hv
theorem wpC_callSpecial?_slot {self : Value} {T : String} {name : Str} {id : String} {args : List Value}
    {Q : Option Value → Shared → Prop} (hT : s.TypeIs self T) (h : Slot T name id)
    (hc : wpC (model prog w) A (call (.builtin id) (self :: args)) (fun v => Q (some v)) E s) : wpC (model prog w) A (callSpecial? self name args) Q E s := by
  simp only [callSpecial?]
  refine wpC_bindA (wpAny_specialOf hT h.lookup ?_)
  simp only [h.bind]
  exact wpC_holding (wpC_bind (wpC_pure (wpC_bind (wpC_mono hc (fun v s' h' => wpC_pure h') fun _ _ h' => h'))))
theorem codeC_builtin {id : String} {args : Args} {b : Builtin} {R : Result → Shared → Prop} (hb : entryFor table id = some b) (hA : A.under (.builtin id args) = A.in1)
    (h : wpC (model prog w) A.in1 (b args)
      (fun fin s' => match fin with | .done f => R (.ok f) s' | .again c' => c'.quiet = true ∧ calmC c' = true ∧ codeC (model prog w) A c' R s') (fun e s' => R (.error e) s') s) :
    codeC (model prog w) A (.builtin id args) R s := by
  refine codeC_of_tree ?_
  show wpC _ _ (match entryFor table id with | some b => b args | none => unsupported ((withoutEnding? id "#data").getD id)) _ _ s
  rw [hb, hA]; exact h
namespace HBaMake
def SS (prog_K : Program) (w_K : World) (A_K : Around) (E_K : Value → Shared → Prop) (s_K : Shared) (args_K : List Value) (Q_K : Value → Shared → Prop) : Prop := checkTypeCall "bytearray" ⟨args_K, []⟩ = pure () → checkBuiltinCall "bytearray.__new__" ⟨.type "bytearray" :: args_K, []⟩ = pure () → (∀ obj : Value, argsOk "bytearray.__init__" ⟨obj :: args_K, []⟩) → (wpC (model prog_K w_K) A_K.in1.in1 (Builtin.«bytearray.__init__» ⟨.ref s_K.heap.objs.size :: args_K, []⟩)
      (fun fin s' => match fin with | .done (.ret v) => v = .none ∧ Q_K (.ref s_K.heap.objs.size) s' | _ => False) (fun e s' => E_K e s') { s_K with heap := s_K.heap.push (baObj #[]) }) → wpC (model prog_K w_K) A_K (call (.type "bytearray") args_K) Q_K E_K s_K
noncomputable def kk : Program × World × Around × (Value → Shared → Prop) × Shared × (List Value) × (Value → Shared → Prop) := Classical.epsilon fun y => ¬ SS y.1 y.2.1 y.2.2.1 y.2.2.2.1 y.2.2.2.2.1 y.2.2.2.2.2.1 y.2.2.2.2.2.2
@[irreducible] noncomputable def prog_K : Program := kk.1
@[irreducible] noncomputable def w_K : World := kk.2.1
@[irreducible] noncomputable def A_K : Around := kk.2.2.1
@[irreducible] noncomputable def E_K : Value → Shared → Prop := kk.2.2.2.1
@[irreducible] noncomputable def s_K : Shared := kk.2.2.2.2.1
@[irreducible] noncomputable def args_K : List Value := kk.2.2.2.2.2.1
@[irreducible] noncomputable def Q_K : Value → Shared → Prop := kk.2.2.2.2.2.2
end HBaMake
open HBaMake in
theorem HBaMake.main (hct : checkTypeCall "bytearray" ⟨args_K, []⟩ = pure ()) (hcn : checkBuiltinCall "bytearray.__new__" ⟨.type "bytearray" :: args_K, []⟩ = pure ()) (hok : ∀ obj : Value, argsOk "bytearray.__init__" ⟨obj :: args_K, []⟩) (h : wpC (model prog_K w_K) A_K.in1.in1 (Builtin.«bytearray.__init__» ⟨.ref s_K.heap.objs.size :: args_K, []⟩)
      (fun fin s' => match fin with | .done (.ret v) => v = .none ∧ Q_K (.ref s_K.heap.objs.size) s' | _ => False) (fun e s' => E_K e s') { s_K with heap := s_K.heap.push (baObj #[]) }) : wpC (model prog_K w_K) A_K (call (.type "bytearray") args_K) Q_K E_K s_K := by
  have ft := ba_called
  obtain ⟨c, tl, hmro⟩ := ft.mro
  have hmade := ft.made
  have hsub := ft.sub
  refine wpC_call (codeC_of_tree ?_)
  show wpC _ _ (callAny (.type "bytearray") _) _ _ _
  refine wpC_pure ⟨Code.quiet_builtin _ (by decide +kernel), rfl, codeC_builtin F.entry_type_call (Around.under_plain (weight_type_call_type "bytearray" args_K []) rfl) ?_⟩
  have h1 := ft.notType
  have h2 := ft.canCreate
  unfold Builtin.«type.__call__»
  simp only [h1, h2, Bool.false_eq_true, if_false]
  refine wpC_bindA (wpAny_of_eq hct ?_)
  refine wpC_bindA (wpAny_of_eq hmro ?_)
  simp only [List.isEmpty_cons, Bool.false_eq_true, if_false]
  refine wpC_bindA (wpAny_of_eq hmade ?_)
  dsimp only
  refine wpC_bind (wpC_pure ?_)
  refine wpC_bind (wpC_holding (wpC_any (wpAny_call (codeAny_mono (ba_code_new (E := fun _ _ => False) (Q₁ := fun v s₁ => v = .ref s_K.heap.objs.size ∧ s₁ = { s_K with heap := s_K.heap.push (baObj #[]) }) hcn ⟨rfl, rfl⟩) fun r s₁ hr => ?_))))
  cases r with
  | error e => exact hr.elim
  | ok fl =>
    cases fl with
    | ret obj =>
      obtain ⟨rfl, rfl⟩ := hr
      have hT : Shared.TypeIs { s_K with heap := s_K.heap.push (baObj #[]) } (.ref s_K.heap.objs.size) "bytearray" := ⟨baObj #[], Heap.get?_push_size _ rfl, rfl⟩
      refine wpC_bindA (wpAny_isInstance hT hsub ?_)
      simp only [Bool.not_true, Bool.false_eq_true, if_false]
      refine wpC_bind (wpC_holding ?_)
      refine wpC_callSpecial?_slot hT ba_slot_init (wpC_call_entry ba_slot_init hT ba_entry_init rfl (wpC_mono h (fun fin s' h' => ?_) fun _ _ x => x) (hok _))
      cases fin with
      | again c => exact h'.elim
      | done fl =>
        cases fl with
        | ret v =>
          obtain ⟨rfl, hq⟩ := h'
          refine ⟨_, rfl, ?_⟩
          dsimp only
          rw [if_neg (by simp)]
          exact wpC_pure hq
        | _ => exact h'.elim
    | _ => exact hr.elim
theorem ba_make {prog : Program} {w : World} {A : Around} {E : Value → Shared → Prop} {s : Shared} {args : List Value} {Q : Value → Shared → Prop} (hct : checkTypeCall "bytearray" ⟨args, []⟩ = pure ()) (hcn : checkBuiltinCall "bytearray.__new__" ⟨.type "bytearray" :: args, []⟩ = pure ()) (hok : ∀ obj : Value, argsOk "bytearray.__init__" ⟨obj :: args, []⟩) (h : wpC (model prog w) A.in1.in1 (Builtin.«bytearray.__init__» ⟨.ref s.heap.objs.size :: args, []⟩)
      (fun fin s' => match fin with | .done (.ret v) => v = .none ∧ Q (.ref s.heap.objs.size) s' | _ => False) (fun e s' => E e s') { s with heap := s.heap.push (baObj #[]) }) : wpC (model prog w) A (call (.type "bytearray") args) Q E s := by
  refine henk (P := fun y => HBaMake.SS y.1 y.2.1 y.2.2.1 y.2.2.2.1 y.2.2.2.2.1 y.2.2.2.2.2.1 y.2.2.2.2.2.2) ?_ (prog, w, A, E, s, args, Q) hct hcn hok h
  intro hct hcn hok h
  with_unfolding_all exact HBaMake.main hct hcn hok h
theorem ba_no_own_release {a : Addr} {Q : Bool → Shared → Prop} (hT : s.TypeIs (.ref a) "bytearray") (h : Q false s) : wpAny (model prog w) A (Bytes.ownRelease (.ref a)) Q E s := by
  unfold Bytes.ownRelease Bytes.slotIsOwn
  refine wpAny_bind (wpAny_bind (wpAny_specialOf hT ba_lookup_release ?_))
  dsimp only
  rw [if_neg (by decide +kernel)]
  refine wpAny_isInstance hT (T := "bytearray") (b := true) (by rw [isSubtype_type]; kernel_rfl) ?_
  exact wpAny_pure h
theorem ba_bytes_noindex : typeLookup (.type "bytes") (Str.ofString "__index__") = pure none := by rw [typeLookup_type, builtinLookup_eq_fast]; kernel_rfl
theorem ba_buffer_bytes (b : Array UInt8) (t : Tok) : Bytes.buffer? "bytearray.__init__" (.bytes b t) true = pure (some b) := by
  unfold Bytes.buffer?
  rw [KBy.special_eq KBy.look_buffer, KBy.own_buffer, KBy.own_release]
  kernel_rfl
theorem ba_take {p : Value → Bool} {vs : List Value} {ns : List Int} (hi : IntsAre vs ns) (hr : ∀ n ∈ ns, 0 ≤ n ∧ n < 256) (hp : ∀ i t, p (.int i t) = (decide (0 ≤ i) && decide (i < 256))) : List.takeWhile p vs = vs := by
  induction hi with
  | nil => rfl
  | cons n t hi ih =>
    obtain ⟨r0, r1⟩ := hr n (.head _)
    rw [List.takeWhile_cons_of_pos (by rw [hp]; simp [r0, r1]), ih fun k hk => hr k (.tail _ hk)]
theorem ba_map {f : Value → Option UInt8} {vs : List Value} {ns : List Int} (hi : IntsAre vs ns) (hr : ∀ n ∈ ns, 0 ≤ n ∧ n < 256) (hf : ∀ i t, f (.int i t) = some i.toNat.toUInt8) : KBw.bInts (List.filterMap f vs).toArray = ns := by
  induction hi with
  | nil => rfl
  | cons n t hi ih =>
    obtain ⟨r0, r1⟩ := hr n (.head _)
    have hb : ((n.toNat.toUInt8.toNat : Nat) : Int) = n := byte_back r0 r1
    have i2 := ih fun k hk => hr k (.tail _ hk)
    simp only [KBw.bInts] at i2 ⊢
    rw [List.filterMap_cons_some (hf n t), List.map_cons, i2, hb]
theorem ba_bind0 : Bytes.bindOptional "bytearray.__init__" "bytearray" ["source", "encoding", "errors"] [] [] = pure [none, none, none] := by kernel_rfl
theorem ba_bind1 (v : Value) : Bytes.bindOptional "bytearray.__init__" "bytearray" ["source", "encoding", "errors"] [v] [] = pure [some v, none, none] := by kernel_rfl
theorem ba_no_exports {a : Addr} {b : Array UInt8} {Q : Bool → Shared → Prop} (hb : s.heap.get? a = some (baObj b)) (h : Q false s) :
    wpC (model prog w) A (Bytes.exported (.ref a) <||> do let n ← Bytes.exportsOf (.ref a); pure (decide (n > 0))) Q E s := by
  show wpC _ A (Bytes.exported (.ref a) >>= _) Q E s
  refine wpC_bind (wpC_exported ?_)
  show wpC _ A (do let n ← Bytes.exportsOf (.ref a); pure (decide (n > 0))) Q E s
  unfold Bytes.exportsOf
  refine wpC_bind (wpC_bindA (wpAny_load hb (wpC_pure (wpC_pure h))))
theorem ba_heap_set {h : Heap} {a : Addr} {b : Array UInt8} {f : Array UInt8 → Array UInt8} (hb : h.get? a = some (baObj b)) : (h.update a (Obj.mapBytearray f)).get? a = some (baObj (f b)) :=
  Heap.get?_update_self (Obj.mapBytearray f) hb rfl
namespace HBaInit0
def SS (prog_K : Program) (w_K : World) (A_K : Around) (E_K : Value → Shared → Prop) (s_K : Shared) (a_K : Addr) (Q_K : Shared → Prop) : Prop := s_K.heap.get? a_K = some (baObj #[]) → (∀ h', h'.get? a_K = some (baObj #[]) → (∀ c o, c ≠ a_K → s_K.heap.get? c = some o → h'.get? c = some o) → Q_K { s_K with heap := h' }) → wpC (model prog_K w_K) A_K (Builtin.«bytearray.__init__» ⟨[.ref a_K], []⟩) (fun fin s' => match fin with | .done (.ret v) => v = .none ∧ Q_K s' | _ => False) E_K s_K
noncomputable def kk : Program × World × Around × (Value → Shared → Prop) × Shared × Addr × (Shared → Prop) := Classical.epsilon fun y => ¬ SS y.1 y.2.1 y.2.2.1 y.2.2.2.1 y.2.2.2.2.1 y.2.2.2.2.2.1 y.2.2.2.2.2.2
@[irreducible] noncomputable def prog_K : Program := kk.1
@[irreducible] noncomputable def w_K : World := kk.2.1
@[irreducible] noncomputable def A_K : Around := kk.2.2.1
@[irreducible] noncomputable def E_K : Value → Shared → Prop := kk.2.2.2.1
@[irreducible] noncomputable def s_K : Shared := kk.2.2.2.2.1
@[irreducible] noncomputable def a_K : Addr := kk.2.2.2.2.2.1
@[irreducible] noncomputable def Q_K : Shared → Prop := kk.2.2.2.2.2.2
end HBaInit0
open HBaInit0 in
theorem HBaInit0.main (hb : s_K.heap.get? a_K = some (baObj #[])) (h : ∀ h', h'.get? a_K = some (baObj #[]) → (∀ c o, c ≠ a_K → s_K.heap.get? c = some o → h'.get? c = some o) → Q_K { s_K with heap := h' }) : wpC (model prog_K w_K) A_K (Builtin.«bytearray.__init__» ⟨[.ref a_K], []⟩) (fun fin s' => match fin with | .done (.ret v) => v = .none ∧ Q_K s' | _ => False) E_K s_K := by
  have hT : s_K.TypeIs (.ref a_K) "bytearray" := ba_type hb rfl
  unfold Builtin.«bytearray.__init__»
  dsimp only
  refine wpC_bindA (ba_no_own_release hT ?_)
  rw [if_neg (by simp)]
  refine wpC_bindA (wpAny_of_eq ba_bind0 ?_)
  dsimp only
  refine wpC_bindA (m := Bytes.checkCodecArg _ _ _ _) (wpAny_pure ?_)
  refine wpC_bindA (m := Bytes.checkCodecArg _ _ _ _) (wpAny_pure ?_)
  refine wpC_bind (ba_no_exports hb ?_)
  rw [if_neg (by simp)]
  refine wpC_any ?_
  refine wpAny_bind (ba_write hb (by simp) ?_)
  simp only [Option.isSome_none, Bool.false_eq_true, if_false]
  refine wpAny_bind (wpAny_pure ?_)
  exact wpAny_pure ⟨rfl, h _ (ba_heap_set hb) fun c o hc ho => (Heap.get?_update_other _ _ (Ne.symm hc)).trans ho⟩
theorem ba_init0 {prog : Program} {w : World} {A : Around} {E : Value → Shared → Prop} {s : Shared} {a : Addr} {Q : Shared → Prop} (hb : s.heap.get? a = some (baObj #[])) (h : ∀ h', h'.get? a = some (baObj #[]) → (∀ c o, c ≠ a → s.heap.get? c = some o → h'.get? c = some o) → Q { s with heap := h' }) : wpC (model prog w) A (Builtin.«bytearray.__init__» ⟨[.ref a], []⟩) (fun fin s' => match fin with | .done (.ret v) => v = .none ∧ Q s' | _ => False) E s := by
  refine henk (P := fun y => HBaInit0.SS y.1 y.2.1 y.2.2.1 y.2.2.2.1 y.2.2.2.2.1 y.2.2.2.2.2.1 y.2.2.2.2.2.2) ?_ (prog, w, A, E, s, a, Q) hb h
  intro hb h
  with_unfolding_all exact HBaInit0.main hb h
namespace HBaInitn
def SS (prog_K : Program) (w_K : World) (A_K : Around) (E_K : Value → Shared → Prop) (s_K : Shared) (a_K : Addr) (t_K : Tok) (Q_K : Shared → Prop) : Prop := ∀ (n : Int), s_K.heap.get? a_K = some (baObj #[]) → 0 ≤ n → n ≤ 16777216 → (∀ h', h'.get? a_K = some (baObj (Array.replicate n.toNat 0)) → (∀ c o, c ≠ a_K → s_K.heap.get? c = some o → h'.get? c = some o) → Q_K { s_K with heap := h' }) → wpC (model prog_K w_K) A_K (Builtin.«bytearray.__init__» ⟨[.ref a_K, .int n t_K], []⟩) (fun fin s' => match fin with | .done (.ret v) => v = .none ∧ Q_K s' | _ => False) E_K s_K
noncomputable def kk : Program × World × Around × (Value → Shared → Prop) × Shared × Addr × Tok × (Shared → Prop) := Classical.epsilon fun y => ¬ SS y.1 y.2.1 y.2.2.1 y.2.2.2.1 y.2.2.2.2.1 y.2.2.2.2.2.1 y.2.2.2.2.2.2.1 y.2.2.2.2.2.2.2
@[irreducible] noncomputable def prog_K : Program := kk.1
@[irreducible] noncomputable def w_K : World := kk.2.1
@[irreducible] noncomputable def A_K : Around := kk.2.2.1
@[irreducible] noncomputable def E_K : Value → Shared → Prop := kk.2.2.2.1
@[irreducible] noncomputable def s_K : Shared := kk.2.2.2.2.1
@[irreducible] noncomputable def a_K : Addr := kk.2.2.2.2.2.1
@[irreducible] noncomputable def t_K : Tok := kk.2.2.2.2.2.2.1
@[irreducible] noncomputable def Q_K : Shared → Prop := kk.2.2.2.2.2.2.2
end HBaInitn
open HBaInitn in
theorem HBaInitn.main (n : Int) (hb : s_K.heap.get? a_K = some (baObj #[])) (h0 : 0 ≤ n) (h1 : n ≤ 16777216) (h : ∀ h', h'.get? a_K = some (baObj (Array.replicate n.toNat 0)) → (∀ c o, c ≠ a_K → s_K.heap.get? c = some o → h'.get? c = some o) → Q_K { s_K with heap := h' }) : wpC (model prog_K w_K) A_K (Builtin.«bytearray.__init__» ⟨[.ref a_K, .int n t_K], []⟩) (fun fin s' => match fin with | .done (.ret v) => v = .none ∧ Q_K s' | _ => False) E_K s_K := by
  have hT : s_K.TypeIs (.ref a_K) "bytearray" := ba_type hb rfl
  unfold Builtin.«bytearray.__init__»
  dsimp only
  refine wpC_bindA (ba_no_own_release hT ?_)
  rw [if_neg (by simp)]
  refine wpC_bindA (wpAny_of_eq (ba_bind1 _) ?_)
  dsimp only
  refine wpC_bindA (m := Bytes.checkCodecArg _ _ _ _) (wpAny_pure ?_)
  refine wpC_bindA (m := Bytes.checkCodecArg _ _ _ _) (wpAny_pure ?_)
  refine wpC_bind (ba_no_exports hb ?_)
  rw [if_neg (by simp)]
  refine wpC_any ?_
  refine wpAny_bind (ba_write hb (by simp) ?_)
  refine wpAny_bind (wpAny_of_eq (rfl : asStr? (.int n t_K) = pure none) ?_)
  simp only [Option.isSome_none, Bool.false_eq_true, if_false]
  refine wpAny_bind (wpAny_pure ?_)
  refine wpAny_bind (wpAny_specialOf (typeIs_int _ n t_K) F.slot_int_index.lookup ?_)
  simp only [Option.isSome_some, if_true]
  refine wpAny_bind (wpAny_attempt (wpAny_of_eq (rfl : asIndex (.int n t_K) = pure n) ?_))
  dsimp only
  have e1 : Bytes.fitsIndex n = true := by simp only [Bytes.fitsIndex, Bool.and_eq_true, decide_eq_true_eq]; omega
  have e2 : Bytes.tooLong n.toNat = false := by unfold Bytes.tooLong; rw [sizeLine_eq]; exact decide_eq_false (by omega)
  have e3 : (n == 2 ^ 63 - 1) = false := by simp only [beq_eq_false_iff_ne]; omega
  simp only [e1, e2, e3, Bool.not_true, Bool.false_eq_true, if_false]
  rw [if_neg (by omega)]
  refine wpAny_bind (wpAny_rule ?_)
  by_cases hn : n > 0
  · rw [if_pos hn]
    refine wpAny_bind (ba_write (ba_heap_set hb) (by simp; omega) ?_)
    exact wpAny_pure ⟨rfl, h _ (ba_heap_set (ba_heap_set hb)) fun c o hc ho => (Heap.get?_update_other _ _ (Ne.symm hc)).trans ((Heap.get?_update_other _ _ (Ne.symm hc)).trans ho)⟩
  · rw [if_neg hn]
    have : n = 0 := by omega
    subst this
    exact wpAny_pure ⟨rfl, h _ (ba_heap_set hb) fun c o hc ho => (Heap.get?_update_other _ _ (Ne.symm hc)).trans ho⟩
theorem ba_initN {prog : Program} {w : World} {A : Around} {E : Value → Shared → Prop} {s : Shared} {a : Addr} {n : Int} {t : Tok} {Q : Shared → Prop} (hb : s.heap.get? a = some (baObj #[])) (h0 : 0 ≤ n) (h1 : n ≤ 16777216) (h : ∀ h', h'.get? a = some (baObj (Array.replicate n.toNat 0)) → (∀ c o, c ≠ a → s.heap.get? c = some o → h'.get? c = some o) → Q { s with heap := h' }) : wpC (model prog w) A (Builtin.«bytearray.__init__» ⟨[.ref a, .int n t], []⟩) (fun fin s' => match fin with | .done (.ret v) => v = .none ∧ Q s' | _ => False) E s := by
  refine henk (P := fun y => HBaInitn.SS y.1 y.2.1 y.2.2.1 y.2.2.2.1 y.2.2.2.2.1 y.2.2.2.2.2.1 y.2.2.2.2.2.2.1 y.2.2.2.2.2.2.2) ?_ (prog, w, A, E, s, a, t, Q) n hb h0 h1 h
  intro n hb h0 h1 h
  with_unfolding_all exact HBaInitn.main n hb h0 h1 h
namespace HBaInitb
def SS (prog_K : Program) (w_K : World) (A_K : Around) (E_K : Value → Shared → Prop) (s_K : Shared) (a_K : Addr) (b_K : Array UInt8) (t_K : Tok) (Q_K : Shared → Prop) : Prop := s_K.heap.get? a_K = some (baObj #[]) → b_K.size ≤ 16777216 → (∀ h', h'.get? a_K = some (baObj b_K) → (∀ c o, c ≠ a_K → s_K.heap.get? c = some o → h'.get? c = some o) → Q_K { s_K with heap := h' }) → wpC (model prog_K w_K) A_K (Builtin.«bytearray.__init__» ⟨[.ref a_K, .bytes b_K t_K], []⟩) (fun fin s' => match fin with | .done (.ret v) => v = .none ∧ Q_K s' | _ => False) E_K s_K
noncomputable def kk : Program × World × Around × (Value → Shared → Prop) × Shared × Addr × (Array UInt8) × Tok × (Shared → Prop) := Classical.epsilon fun y => ¬ SS y.1 y.2.1 y.2.2.1 y.2.2.2.1 y.2.2.2.2.1 y.2.2.2.2.2.1 y.2.2.2.2.2.2.1 y.2.2.2.2.2.2.2.1 y.2.2.2.2.2.2.2.2
@[irreducible] noncomputable def prog_K : Program := kk.1
@[irreducible] noncomputable def w_K : World := kk.2.1
@[irreducible] noncomputable def A_K : Around := kk.2.2.1
@[irreducible] noncomputable def E_K : Value → Shared → Prop := kk.2.2.2.1
@[irreducible] noncomputable def s_K : Shared := kk.2.2.2.2.1
@[irreducible] noncomputable def a_K : Addr := kk.2.2.2.2.2.1
@[irreducible] noncomputable def b_K : Array UInt8 := kk.2.2.2.2.2.2.1
@[irreducible] noncomputable def t_K : Tok := kk.2.2.2.2.2.2.2.1
@[irreducible] noncomputable def Q_K : Shared → Prop := kk.2.2.2.2.2.2.2.2
end HBaInitb
open HBaInitb in
theorem HBaInitb.main (hb : s_K.heap.get? a_K = some (baObj #[])) (h1 : b_K.size ≤ 16777216) (h : ∀ h', h'.get? a_K = some (baObj b_K) → (∀ c o, c ≠ a_K → s_K.heap.get? c = some o → h'.get? c = some o) → Q_K { s_K with heap := h' }) : wpC (model prog_K w_K) A_K (Builtin.«bytearray.__init__» ⟨[.ref a_K, .bytes b_K t_K], []⟩) (fun fin s' => match fin with | .done (.ret v) => v = .none ∧ Q_K s' | _ => False) E_K s_K := by
  have hT : s_K.TypeIs (.ref a_K) "bytearray" := ba_type hb rfl
  unfold Builtin.«bytearray.__init__»
  dsimp only
  refine wpC_bindA (ba_no_own_release hT ?_)
  rw [if_neg (by simp)]
  refine wpC_bindA (wpAny_of_eq (ba_bind1 _) ?_)
  dsimp only
  refine wpC_bindA (m := Bytes.checkCodecArg _ _ _ _) (wpAny_pure ?_)
  refine wpC_bindA (m := Bytes.checkCodecArg _ _ _ _) (wpAny_pure ?_)
  refine wpC_bind (ba_no_exports hb ?_)
  rw [if_neg (by simp)]
  refine wpC_any ?_
  refine wpAny_bind (ba_write hb (by simp) ?_)
  refine wpAny_bind (wpAny_of_eq (rfl : asStr? (.bytes b_K t_K) = pure none) ?_)
  simp only [Option.isSome_none, Bool.false_eq_true, if_false]
  refine wpAny_bind (wpAny_pure ?_)
  refine wpAny_bind (wpAny_of_eq (KBy.special_eq ba_bytes_noindex) ?_)
  simp only [Option.isSome_none, Bool.false_eq_true, if_false]
  refine wpAny_bind (wpAny_of_eq (ba_buffer_bytes b_K t_K) ?_)
  dsimp only
  refine wpAny_bind (wpAny_rule ?_)
  refine wpAny_bind (ba_write (ba_heap_set hb) (by simpa using h1) ?_)
  exact wpAny_pure ⟨rfl, h _ (ba_heap_set (ba_heap_set hb)) fun c o hc ho => (Heap.get?_update_other _ _ (Ne.symm hc)).trans ((Heap.get?_update_other _ _ (Ne.symm hc)).trans ho)⟩
theorem ba_initB {prog : Program} {w : World} {A : Around} {E : Value → Shared → Prop} {s : Shared} {a : Addr} {b : Array UInt8} {t : Tok} {Q : Shared → Prop} (hb : s.heap.get? a = some (baObj #[])) (h1 : b.size ≤ 16777216) (h : ∀ h', h'.get? a = some (baObj b) → (∀ c o, c ≠ a → s.heap.get? c = some o → h'.get? c = some o) → Q { s with heap := h' }) : wpC (model prog w) A (Builtin.«bytearray.__init__» ⟨[.ref a, .bytes b t], []⟩) (fun fin s' => match fin with | .done (.ret v) => v = .none ∧ Q s' | _ => False) E s := by
  refine henk (P := fun y => HBaInitb.SS y.1 y.2.1 y.2.2.1 y.2.2.2.1 y.2.2.2.2.1 y.2.2.2.2.2.1 y.2.2.2.2.2.2.1 y.2.2.2.2.2.2.2.1 y.2.2.2.2.2.2.2.2) ?_ (prog, w, A, E, s, a, b, t, Q) hb h1 h
  intro hb h1 h
  with_unfolding_all exact HBaInitb.main hb h1 h
namespace HBaInitl
def SS (prog_K : Program) (w_K : World) (A_K : Around) (E_K : Value → Shared → Prop) (s_K : Shared) (a_K : Addr) (l_K : Addr) (vs_K : List Value) (ns_K : List Int) (Q_K : Shared → Prop) : Prop := s_K.heap.get? a_K = some (baObj #[]) → l_K ≠ a_K → s_K.heap.IsList l_K vs_K.toArray → IntsAre vs_K ns_K → (∀ n ∈ ns_K, 0 ≤ n ∧ n < 256) → ns_K.length ≤ 16777216 → (∀ b h', KBw.bInts b = ns_K → h'.get? a_K = some (baObj b) → (∀ c o, c ≠ a_K → s_K.heap.get? c = some o → h'.get? c = some o) → Q_K { s_K with heap := h' }) → wpC (model prog_K w_K) A_K (Builtin.«bytearray.__init__» ⟨[.ref a_K, .ref l_K], []⟩) (fun fin s' => match fin with | .done (.ret v) => v = .none ∧ Q_K s' | _ => False) E_K s_K
noncomputable def kk : Program × World × Around × (Value → Shared → Prop) × Shared × Addr × Addr × (List Value) × (List Int) × (Shared → Prop) := Classical.epsilon fun y => ¬ SS y.1 y.2.1 y.2.2.1 y.2.2.2.1 y.2.2.2.2.1 y.2.2.2.2.2.1 y.2.2.2.2.2.2.1 y.2.2.2.2.2.2.2.1 y.2.2.2.2.2.2.2.2.1 y.2.2.2.2.2.2.2.2.2
@[irreducible] noncomputable def prog_K : Program := kk.1
@[irreducible] noncomputable def w_K : World := kk.2.1
@[irreducible] noncomputable def A_K : Around := kk.2.2.1
@[irreducible] noncomputable def E_K : Value → Shared → Prop := kk.2.2.2.1
@[irreducible] noncomputable def s_K : Shared := kk.2.2.2.2.1
@[irreducible] noncomputable def a_K : Addr := kk.2.2.2.2.2.1
@[irreducible] noncomputable def l_K : Addr := kk.2.2.2.2.2.2.1
@[irreducible] noncomputable def vs_K : List Value := kk.2.2.2.2.2.2.2.1
@[irreducible] noncomputable def ns_K : List Int := kk.2.2.2.2.2.2.2.2.1
@[irreducible] noncomputable def Q_K : Shared → Prop := kk.2.2.2.2.2.2.2.2.2
end HBaInitl
open HBaInitl in
theorem HBaInitl.main (hb : s_K.heap.get? a_K = some (baObj #[])) (hal : l_K ≠ a_K) (hl : s_K.heap.IsList l_K vs_K.toArray) (hi : IntsAre vs_K ns_K) (hr : ∀ n ∈ ns_K, 0 ≤ n ∧ n < 256) (h1 : ns_K.length ≤ 16777216) (h : ∀ b h', KBw.bInts b = ns_K → h'.get? a_K = some (baObj b) → (∀ c o, c ≠ a_K → s_K.heap.get? c = some o → h'.get? c = some o) → Q_K { s_K with heap := h' }) : wpC (model prog_K w_K) A_K (Builtin.«bytearray.__init__» ⟨[.ref a_K, .ref l_K], []⟩) (fun fin s' => match fin with | .done (.ret v) => v = .none ∧ Q_K s' | _ => False) E_K s_K := by
  have hT : s_K.TypeIs (.ref a_K) "bytearray" := ba_type hb rfl
  unfold Builtin.«bytearray.__init__»
  dsimp only
  refine wpC_bindA (ba_no_own_release hT ?_)
  rw [if_neg (by simp)]
  refine wpC_bindA (wpAny_of_eq (ba_bind1 _) ?_)
  dsimp only
  refine wpC_bindA (m := Bytes.checkCodecArg _ _ _ _) (wpAny_pure ?_)
  refine wpC_bindA (m := Bytes.checkCodecArg _ _ _ _) (wpAny_pure ?_)
  refine wpC_bind (ba_no_exports hb ?_)
  rw [if_neg (by simp)]
  refine wpC_any ?_
  refine wpAny_bind (ba_write hb (by simp) ?_)
  have hl₁ : (s_K.heap.update a_K (Obj.mapBytearray fun _ => #[])).IsList l_K vs_K.toArray := by
    obtain ⟨ol, hol, r⟩ := hl
    exact ⟨ol, (Heap.get?_update_other _ _ (Ne.symm hal)).trans hol, r⟩
  have hT₁ : ({ s_K with heap := s_K.heap.update a_K (Obj.mapBytearray fun _ => #[]) } : Shared).TypeIs (.ref l_K) "list" := Heap.IsList.typeIs (s := { s_K with heap := s_K.heap.update a_K (Obj.mapBytearray fun _ => #[]) }) hl₁
  obtain ⟨ol, hol, hoc, nl, hod⟩ := id hl₁
  refine wpAny_bind ?_
  show wpAny _ _ (load l_K >>= _) _ _ _
  refine wpAny_bind (wpAny_load hol ?_)
  rw [hod]
  refine wpAny_pure ?_
  simp only [Option.isSome_none, Bool.false_eq_true, if_false]
  refine wpAny_bind (wpAny_pure ?_)
  refine wpAny_bind (wpAny_specialOf hT₁ F.bm_no_index ?_)
  simp only [Option.isSome_none, Bool.false_eq_true, if_false]
  refine wpAny_bind ?_
  unfold Builtin.Bytes.buffer?
  refine wpAny_bind (wpAny_specialOf hT₁ F.bm_no_buffer ?_)
  refine wpAny_bind (wpAny_specialOf hT₁ F.bm_no_buffer ?_)
  refine wpAny_pure ?_
  dsimp only
  refine wpAny_bind (wpAny_typeOf hT₁ ?_)
  rw [if_pos (by decide)]
  refine wpAny_bind ?_
  show wpAny _ _ (load l_K >>= _) _ _ _
  refine wpAny_bind (wpAny_load hol ?_)
  rw [hod]
  refine wpAny_pure ?_
  dsimp only
  rw [ba_take hi hr]
  rw [show vs_K.toArray[vs_K.length]? = none by simp]
  dsimp only
  refine wpAny_bind (wpAny_rule ?_)
  refine wpAny_bind (ba_write (ba_heap_set hb) ?hz ?_)
  case hz =>
    rw [← KBw.ints_length]
    rw [ba_map hi hr]
    · exact h1
    · intros; rfl
  · exact wpAny_pure ⟨rfl, h _ _ (ba_map hi hr fun _ _ => rfl) (ba_heap_set (ba_heap_set hb)) fun c o hc ho => (Heap.get?_update_other _ _ (Ne.symm hc)).trans ((Heap.get?_update_other _ _ (Ne.symm hc)).trans ho)⟩
  · intros; rfl
theorem ba_initL {prog : Program} {w : World} {A : Around} {E : Value → Shared → Prop} {s : Shared} {a : Addr} {l : Addr} {vs : List Value} {ns : List Int} {Q : Shared → Prop} (hb : s.heap.get? a = some (baObj #[])) (hal : l ≠ a) (hl : s.heap.IsList l vs.toArray) (hi : IntsAre vs ns) (hr : ∀ n ∈ ns, 0 ≤ n ∧ n < 256) (h1 : ns.length ≤ 16777216) (h : ∀ b h', KBw.bInts b = ns → h'.get? a = some (baObj b) → (∀ c o, c ≠ a → s.heap.get? c = some o → h'.get? c = some o) → Q { s with heap := h' }) : wpC (model prog w) A (Builtin.«bytearray.__init__» ⟨[.ref a, .ref l], []⟩) (fun fin s' => match fin with | .done (.ret v) => v = .none ∧ Q s' | _ => False) E s := by
  refine henk (P := fun y => HBaInitl.SS y.1 y.2.1 y.2.2.1 y.2.2.2.1 y.2.2.2.2.1 y.2.2.2.2.2.1 y.2.2.2.2.2.2.1 y.2.2.2.2.2.2.2.1 y.2.2.2.2.2.2.2.2.1 y.2.2.2.2.2.2.2.2.2) ?_ (prog, w, A, E, s, a, l, vs, ns, Q) hb hal hl hi hr h1 h
  intro hb hal hl hi hr h1 h
  with_unfolding_all exact HBaInitl.main hb hal hl hi hr h1 h
section
variable {h₀ : Heap} {L : Addr} {m : Str → Option Value} {news : List (Addr × Obj)}
theorem ba_onto {b : Array UInt8} {h' : Heap} (F : Fr h₀ L s.heap m) (N : News h₀ L s.heap news) (hg : h'.get? s.heap.objs.size = some (baObj b))
    (hk : ∀ c o, c ≠ s.heap.objs.size → (s.heap.push (baObj #[])).get? c = some o → h'.get? c = some o) :
    Fr h₀ L h' m ∧ News h₀ L h' ((s.heap.objs.size, baObj b) :: news) ∧ ∀ p ∈ news, p.1 < s.heap.objs.size := by
  have keep : ∀ c o, s.heap.get? c = some o → h'.get? c = some o := fun c o e => hk c o (Nat.ne_of_lt (Heap.lt_size e)) (Heap.get?_push_of_some _ e)
  obtain ⟨oL, es, ep, hL, r⟩ := F.ns
  refine ⟨⟨⟨oL, es, ep, keep _ _ hL, r⟩, fun b o e => keep b o (F.keep b o e), F.above⟩, fun p hp => ?_, fun p hp => Heap.lt_size (N p hp).1⟩
  rcases List.mem_cons.mp hp with rfl | hp
  · refine ⟨hg, fun e => ?_, ?_⟩
    · exact absurd (show s.heap.objs.size = L from e) (Nat.ne_of_gt (Heap.lt_size hL))
    · cases q : h₀.get? s.heap.objs.size with
      | none => rfl
      | some o => exact absurd (Heap.lt_size (F.keep _ _ q)) (Nat.lt_irrefl _)
  · exact ⟨keep _ _ (N p hp).1, (N p hp).2⟩
theorem ba_call0 {Q : Value → Shared → Prop} (F : Fr h₀ L s.heap m) (N : News h₀ L s.heap news)
    (h : ∀ a h', Fr h₀ L h' m → News h₀ L h' ((a, baObj #[]) :: news) → (∀ p ∈ news, p.1 < a) → Q (.ref a) { s with heap := h' }) : wpC (model prog w) A (call (.type "bytearray") []) Q E s :=
  ba_make ba_typeCall0 ba_newCall0 (fun _ => ba_args_init0 _) (ba_init0 (Heap.get?_push_size _ rfl) fun h' hg hk => by
    obtain ⟨a1, a2, a3⟩ := ba_onto F N hg hk
    exact h _ _ a1 a2 a3)
theorem ba_callN {n : Int} {t : Tok} {Q : Value → Shared → Prop} (F : Fr h₀ L s.heap m) (N : News h₀ L s.heap news) (h0 : 0 ≤ n) (h1 : n ≤ 16777216)
    (h : ∀ a b h', KBw.bInts b = List.replicate n.toNat 0 → Fr h₀ L h' m → News h₀ L h' ((a, baObj b) :: news) → (∀ p ∈ news, p.1 < a) → Q (.ref a) { s with heap := h' }) : wpC (model prog w) A (call (.type "bytearray") [.int n t]) Q E s :=
  ba_make (ba_typeCall1 _) (ba_newCall1 _) (fun _ => ba_args_init1 _ _) (ba_initN (Heap.get?_push_size _ rfl) h0 h1 fun h' hg hk => by
    obtain ⟨a1, a2, a3⟩ := ba_onto F N hg hk
    exact h _ _ _ (by simp [KBw.bInts]) a1 a2 a3)
theorem ba_callB {b : Array UInt8} {t : Tok} {Q : Value → Shared → Prop} (F : Fr h₀ L s.heap m) (N : News h₀ L s.heap news) (h1 : b.size ≤ 16777216)
    (h : ∀ a h', Fr h₀ L h' m → News h₀ L h' ((a, baObj b) :: news) → (∀ p ∈ news, p.1 < a) → Q (.ref a) { s with heap := h' }) : wpC (model prog w) A (call (.type "bytearray") [.bytes b t]) Q E s :=
  ba_make (ba_typeCall1 _) (ba_newCall1 _) (fun _ => ba_args_init1 _ _) (ba_initB (Heap.get?_push_size _ rfl) h1 fun h' hg hk => by
    obtain ⟨a1, a2, a3⟩ := ba_onto F N hg hk
    exact h _ _ a1 a2 a3)
theorem ba_callL {l : Addr} {vs : List Value} {ns : List Int} {Q : Value → Shared → Prop} (F : Fr h₀ L s.heap m) (N : News h₀ L s.heap news) (hl : s.heap.IsList l vs.toArray) (hi : IntsAre vs ns) (hr : ∀ n ∈ ns, 0 ≤ n ∧ n < 256) (h1 : ns.length ≤ 16777216)
    (h : ∀ a b h', KBw.bInts b = ns → Fr h₀ L h' m → News h₀ L h' ((a, baObj b) :: news) → (∀ p ∈ news, p.1 < a) → Q (.ref a) { s with heap := h' }) : wpC (model prog w) A (call (.type "bytearray") [.ref l]) Q E s := by
  have hlt : l < s.heap.objs.size := by obtain ⟨o, ho, _⟩ := hl; exact Heap.lt_size ho
  exact ba_make (ba_typeCall1 _) (ba_newCall1 _) (fun _ => ba_args_init1 _ _) (ba_initL (Heap.get?_push_size _ rfl) (Nat.ne_of_lt hlt) (hl.push _) hi hr h1 fun b h' hb hg hk => by
    obtain ⟨a1, a2, a3⟩ := ba_onto F N hg hk
    exact h _ _ _ hb a1 a2 a3)
theorem ba_slot_append : Slot "bytearray" "append" "bytearray.append" :=
  .of (owner := "bytearray") (n := "append") (by rw [typeLookup_type, builtinLookup_eq_fast]; kernel_rfl) (by decide +kernel) (by decide +kernel) (by decide +kernel)
    (by first | exact .inl (by decide +kernel) | exact .inr (by decide +kernel)) (by rw [isSubtype_type]; kernel_rfl)
theorem ba_entry_append : entryFor table "bytearray.append" = some Builtin.«bytearray.append» := entryFor_of_tree (by kernel_rfl)
theorem ba_args_append (a b : Value) : argsOk "bytearray.append" ⟨[a, b], []⟩ := by unfold argsOk; kernel_rfl
theorem ba_type_append : typeOf (.builtin "bytearray.append") = pure (.type "method_descriptor") := by show builtinType _ = _; rw [builtinType_eq_fast]; kernel_rfl
theorem ba_ga : typeLookup (.type "bytearray") "__getattribute__" = pure (some (.builtin "bytearray.__getattribute__")) := by rw [typeLookup_type, builtinLookup_eq_fast]; kernel_rfl
theorem ba_noga : typeLookup (.type "bytearray") "__getattr__" = pure none := by rw [typeLookup_type, builtinLookup_eq_fast]; kernel_rfl
theorem ba_plainAttrs : PlainAttrs "bytearray" := ⟨⟨_, ba_ga, by decide +kernel⟩, ba_noga⟩
theorem ba_getMethod {a : Addr} {b : Array UInt8} {pl : Sem Bool} {Q : Value × List Value → Shared → Prop} (ho : s.heap.get? a = some (baObj b)) (h : Q (.builtin "bytearray.append", [.ref a]) s) :
    wpAny (model prog w) A (getMethod (.ref a) "append" pl) Q E s :=
  getMethod_builtin (ba_type ho rfl) ba_plainAttrs ba_slot_append ba_type_append (fun a' e => by cases e; exact ⟨_, ho, rfl⟩) h
theorem ba_append {a : Addr} {b : Array UInt8} {ks : List Int} {v : Int} {t : Tok} {g : Obj → Led} {Q : Value → Shared → Prop} (F : Fr h₀ L s.heap m) (N : News h₀ L s.heap news) (U : UpdF a (baObj b) news g) (hk : KBw.bInts b = ks) (h0 : 0 ≤ v) (h1 : v < 256) (h2 : ks.length < 16777216)
    (h : ∀ b' h', KBw.bInts b' = ks ++ [v] → Fr h₀ L h' m → News h₀ L h' (g (baObj b')) → Q .none { s with heap := h' }) :
    wpC (model prog w) A (call (.builtin "bytearray.append") [.ref a, .int v t]) Q E s := by
  obtain ⟨pre, post, rfl, hg, u1, u2⟩ := U.split
  have ho : s.heap.get? a = some (baObj b) := (N (a, baObj b) (List.mem_append.mpr (.inr (.head _)))).1
  have hT : s.TypeIs (.ref a) "bytearray" := ⟨_, ho, rfl⟩
  have hz : b.size = ks.length := by rw [← hk, KBw.ints_length]
  refine wpC_call_entry ba_slot_append hT ba_entry_append rfl ?_ (ba_args_append _ _)
  show wpC _ _ (selfAndOne "bytearray.append" ⟨[.ref a, .int v t], []⟩ >>= _) _ _ s
  refine wpC_bindA (wpAny_of_eq (rfl : selfAndOne "bytearray.append" ⟨[.ref a, .int v t], []⟩ = pure (.ref a, .int v t)) ?_)
  refine wpC_bindA (ba_byteValue h0 h1 ?_)
  refine wpC_bind ?_
  unfold Bytes.checkResize
  refine wpC_bind (ba_no_exports ho ?_)
  rw [if_neg (by simp)]
  refine wpC_pure ?_
  refine wpC_bindA (ba_write ho (by simp; omega) ?_)
  obtain ⟨F', N'⟩ := news_upd (f := Obj.mapBytearray (·.push v.toNat.toUInt8)) F N u1 u2 (o' := baObj (b.push v.toNat.toUInt8)) rfl rfl
  have hb' : KBw.bInts (b.push v.toNat.toUInt8) = ks ++ [v] := by
    have : ((v.toNat.toUInt8.toNat : Nat) : Int) = v := byte_back h0 h1
    rw [← hk]
    simp only [KBw.bInts, Array.toList_push, List.map_append, List.map_cons, List.map_nil, this]
  exact wpC_pure ⟨.none, rfl, h _ _ hb' F' (hg _ ▸ N')⟩
end
end
end
section
theorem off_NzD : True := by
  w_top off
  trivial
open PySem PySem.W PySem.Calls PyProof.Rows PySem.Builtin
-- isinstance of a bytearray
theorem bc_slot_ga : Slot "bytearray" "__getattribute__" "bytearray.__getattribute__" :=
  .of (owner := "bytearray") (n := "__getattribute__") (by rw [typeLookup_type, builtinLookup_eq_fast]; kernel_rfl) (by decide +kernel) (by decide +kernel) (by decide +kernel)
    (by first | exact .inl (by decide +kernel) | exact .inr (by decide +kernel)) (by rw [isSubtype_type]; kernel_rfl)
theorem bc_args_ga (a b : Value) : argsOk "bytearray.__getattribute__" ⟨[a, b], []⟩ := by unfold argsOk; kernel_rfl
theorem bc_entry_ga : entryFor table "bytearray.__getattribute__" = some Builtin.«object.__getattribute__» :=
  entryFor_alias (id' := "object.__getattribute__") (by rw [fastTable_eq_tree]; kernel_rfl) (by kernel_rfl) (by kernel_rfl) (by rw [fastTable_eq_tree]; kernel_rfl)
theorem bc_lk_class : typeLookup (.type "bytearray") "__class__" = pure (some (.builtin "object.__class__")) := by rw [typeLookup_type, builtinLookup_eq_fast]; kernel_rfl
theorem bc_sub_owner : isSubtype (.type "bytearray") (.type (".".intercalate ("object.__class__".cutAt '.').dropLast)) = pure true := by
  rw [F.owner_object_class, isSubtype_type]; kernel_rfl
section
variable {prog : Program} {w : World} {A : Around} {E : Value → Shared → Prop} {h : Heap} {g : Array GenState} {d : Drawn} {t : Nat} {os : OsState} {a : Addr} {o : Obj}
theorem bc_get {R : Result → Shared → Prop} (hT : (⟨h, g, d, t, os⟩ : Shared).TypeIs (.ref a) "bytearray") (hq : R (.ok (.ret (.type "bytearray"))) ⟨h, g, d, t, os⟩) :
    codeAny (model prog w) A (.call (.builtin "getset_descriptor.__get__") ⟨[.builtin "object.__class__", .ref a, .type "bytearray"], []⟩) R ⟨h, g, d, t, os⟩ := by
  obtain ⟨o, hx, hc⟩ := id hT
  have hT5 : (⟨h, g, d, t, os⟩ : Shared).TypeIs (.builtin "object.__class__") "getset_descriptor" := F.typeOf_object_class
  have f8 := bc_sub_owner
  refine codeAny_call_builtin F.slot_gs_get.plain F.entry_gs_get (F.slot_gs_get.check _ _ _ _ _ _ _ _ hT5 (F.args_gs_get _ _ _) ?_)
  repeat (any_goals (first | assumption | wp_step))
  refine ⟨Code.quiet_builtin _ (by decide +kernel), codeAny_builtin F.entry_object_class ?_⟩
  repeat (any_goals (first | assumption | wp_step))
theorem bc_attr {Q : Option Value → Shared → Prop} (hT : (⟨h, g, d, t, os⟩ : Shared).TypeIs (.ref a) "bytearray") (hq : Q (some (.type "bytearray")) ⟨h, g, d, t + 1, os⟩) : wpAny (model prog w) A (getAttr? (.ref a) "__class__") Q E ⟨h, g, d, t, os⟩ := by
  obtain ⟨o, hx, hc⟩ := id hT
  have hT1 : (⟨h, g, d, t + 1, os⟩ : Shared).TypeIs (.ref a) "bytearray" := hT
  have hT5 : (⟨h, g, d, t + 1, os⟩ : Shared).TypeIs (.builtin "object.__class__") "getset_descriptor" := F.typeOf_object_class
  have f2 := bc_slot_ga.lookup
  have f3 := bc_slot_ga.bind (.ref a)
  have f4 := bc_lk_class
  have f5 := F.typeOf_object_class
  have f6 := F.slot_gs_get.lookup
  have f7 := F.slot_gs_set.lookup
  unfold getAttr? getAttrBy?
  repeat (any_goals (first | assumption | wp_step))
  refine codeAny_call_builtin bc_slot_ga.plain bc_entry_ga (bc_slot_ga.check _ _ _ _ _ _ _ _ hT1 (bc_args_ga _ _) ?_)
  repeat (any_goals (first | assumption | wp_step))
  refine bc_get hT1 ?_
  repeat (any_goals (first | assumption | wp_step))
end
section
variable {prog : Program} {w : World} {A : Around} {E : Value → Shared → Prop} {s : Shared} {a : Addr} {b : Array UInt8} {h₀ : Heap} {L : Addr} {m : Str → Option Value} {news : Led} {K : Frag}
theorem bc_kit : KitX K (.ref a) (.type "bytearray") (KitAt a "bytearray") := kitx_of kitAt_ty (fun {_ _ _ _ _ s} p k => by obtain ⟨h, g, d, t, os⟩ := s; exact bc_attr p k)
theorem bc_isStr {Q : Value → Shared → Prop} (X : K.In s.heap) (ho : s.heap.get? a = some (baObj b)) (h : ∀ tk, Q (.bool false) { s with toks := tk }) :
    wpAny (model prog w) A (call (.builtin "isinstance") [.ref a, .type "str"]) Q E s :=
  kia_one bc_kit X ⟨_, ho, rfl⟩ (by first | kernel_rfl | rfl) (by intro e; cases e) h
-- bytes(..)
theorem by_ownBuffer_ba (ho : s.heap.get? a = some (baObj b)) {Q : Option (Array UInt8) → Shared → Prop} (h : Q (some b) s) : wpAny (model prog w) A (Bytes.buffer? "bytes.__new__" (.ref a) true) Q E s := by
  have hT : s.TypeIs (.ref a) "bytearray" := ba_type ho rfl
  have look : typeLookup (.type "bytearray") "__buffer__" = pure (some (.builtin "bytearray.__buffer__")) := by rw [typeLookup_type, builtinLookup_eq_fast]; kernel_rfl
  unfold Bytes.buffer?
  refine wpAny_bind (wpAny_specialOf hT look ?_)
  dsimp only
  refine wpAny_bind ?_
  unfold Bytes.slotIsOwn
  refine wpAny_bind (wpAny_specialOf hT look ?_)
  dsimp only
  rw [if_neg (by decide +kernel)]
  refine wpAny_isInstance hT (T := "bytearray") (b := true) (by rw [isSubtype_type]; kernel_rfl) ?_
  rw [if_neg (by simp)]
  refine wpAny_bind (wpAny_specialOf hT look ?_)
  refine wpAny_bind (m := Bytes.ownRelease (.ref a)) (ba_no_own_release hT ?_)
  rw [if_neg (by simp)]
  exact wpAny_bind (ba_payload ho (wpAny_pure h))
theorem by_call_ba {Q : Value → Shared → Prop} (ho : s.heap.get? a = some (baObj b)) (hz : b.size ≤ 16777216) (h : ∀ t k, Q (.bytes b t) { s with toks := k }) :
    wpAny (model prog w) A (call (.type "bytes") [.ref a]) Q E s := by
  refine callType_codes F.bm_called (F.bm_typeCall _) F.entry_object_init (Q₁ := fun v s₁ => ∃ t k, v = .bytes b t ∧ s₁ = { s with toks := k }) ?_ ?_
  · refine codeAny_of_tree ?_
    show wpAny _ A.in1.in1 (do checkBuiltinCall "bytes.__new__" ⟨[.type "bytes", .ref a], []⟩; again (.builtin "bytes.__new__" ⟨[.type "bytes", .ref a], []⟩)) _ _ s
    refine wpAny_bind (wpAny_of_eq (F.bm_newCall _) (wpAny_pure ⟨plainId_quiet F.bm_plain _, codeAny_builtin F.bm_entry ?_⟩))
    rw [Around.under_plainId F.bm_plain _]
    unfold Builtin.«bytes.__new__»
    refine wpAny_bind (wpAny_of_eq (a := true) rfl ?_)
    refine bm_if_false rfl ?_
    refine wpAny_bind (wpAny_of_eq F.bm_sub ?_)
    refine bm_if_false rfl ?_
    refine wpAny_bind (wpAny_of_eq (F.bm_bind _) ?_)
    refine wpAny_bind (wpAny_of_eq (a := ()) rfl ?_)
    refine wpAny_bind (wpAny_of_eq (a := ()) rfl ?_)
    refine bm_if_false rfl ?_
    have hT : s.TypeIs (.ref a) "bytearray" := ba_type ho rfl
    have noB : typeLookup (.type "bytearray") "__bytes__" = pure none := by rw [typeLookup_type, builtinLookup_eq_fast]; kernel_rfl
    have noI : typeLookup (.type "bytearray") "__index__" = pure none := by rw [typeLookup_type, builtinLookup_eq_fast]; kernel_rfl
    refine wpAny_bind (wpAny_specialOf hT noB ?_)
    refine wpAny_bind (wpAny_bind ?_)
    show wpAny _ _ (load a >>= _) _ _ _
    refine wpAny_bind (wpAny_load ho ?_)
    refine wpAny_pure (wpAny_pure ?_)
    refine bm_if_false rfl ?_
    refine wpAny_bind (wpAny_specialOf hT noI ?_)
    refine bm_if_true rfl ?_
    first
      | show wpAny _ _ (Builtin.Bytes.buffer? "bytes.__new__" (.ref a) true >>= _) _ _ _
      | (refine wpAny_bind ?_; show wpAny _ _ (Builtin.Bytes.buffer? "bytes.__new__" (.ref a) true >>= _) _ _ _)
    refine wpAny_bind (by_ownBuffer_ba ho ?_)
    dsimp only
    refine wpAny_bind (wpAny_rule (wpAny_bind (wpAny_mkBytes ?_ (by rw [sizeLine_eq]; omega))))
    exact wpAny_pure ⟨_, _, rfl, rfl⟩
  · rintro obj s₁ ⟨t, k, rfl, rfl⟩
    have ht : ({ s with toks := k } : Shared).TypeIs (.bytes b t) "bytes" := typeIs_bytes _ _ _
    exact ⟨ht, by unfold argsOk; kernel_rfl, object_init_meets (self := .bytes b t) (rest := [.ref a]) F.bm_called.init.lookup F.bm_called.made (by decide) prog w A.in1 _ _ ⟨ht, rfl, h t k⟩⟩
theorem by_call_by {t : Tok} {Q : Value → Shared → Prop} (h : ∀ t k, Q (.bytes b t) { s with toks := k }) :
    wpAny (model prog w) A (call (.type "bytes") [.bytes b t]) Q E s := by
  refine callType_codes F.bm_called (F.bm_typeCall _) F.entry_object_init (Q₁ := fun v s₁ => ∃ t k, v = .bytes b t ∧ s₁ = { s with toks := k }) ?_ ?_
  · refine codeAny_of_tree ?_
    show wpAny _ A.in1.in1 (do checkBuiltinCall "bytes.__new__" ⟨[.type "bytes", .bytes b t], []⟩; again (.builtin "bytes.__new__" ⟨[.type "bytes", .bytes b t], []⟩)) _ _ s
    refine wpAny_bind (wpAny_of_eq (F.bm_newCall _) (wpAny_pure ⟨plainId_quiet F.bm_plain _, codeAny_builtin F.bm_entry ?_⟩))
    rw [Around.under_plainId F.bm_plain _]
    unfold Builtin.«bytes.__new__»
    refine wpAny_bind (wpAny_of_eq (a := true) rfl ?_)
    refine bm_if_false rfl ?_
    refine wpAny_bind (wpAny_of_eq F.bm_sub ?_)
    refine bm_if_false rfl ?_
    refine wpAny_bind (wpAny_of_eq (F.bm_bind _) ?_)
    refine wpAny_bind (wpAny_of_eq (a := ()) rfl ?_)
    refine wpAny_bind (wpAny_of_eq (a := ()) rfl ?_)
    refine bm_if_false rfl ?_
    have lk : typeLookup (.type "bytes") "__bytes__" = pure (some (.builtin "bytes.__bytes__")) := by rw [typeLookup_type, builtinLookup_eq_fast]; kernel_rfl
    refine wpAny_bind (wpAny_of_eq (KBy.special_eq lk) ?_)
    refine wpAny_bind (wpAny_rule (wpAny_bind (wpAny_typeOf (typeIs_bytes _ b t) ?_)))
    refine bm_if_true rfl ?_
    exact wpAny_pure ⟨_, _, rfl, rfl⟩
  · rintro obj s₁ ⟨t, k, rfl, rfl⟩
    have ht : ({ s with toks := k } : Shared).TypeIs (.bytes b t) "bytes" := typeIs_bytes _ _ _
    exact ⟨ht, by unfold argsOk; kernel_rfl, object_init_meets (self := .bytes b t) (rest := [.bytes b t]) F.bm_called.init.lookup F.bm_called.made (by decide) prog w A.in1 _ _ ⟨ht, rfl, h t k⟩⟩
theorem by_call_int {n : Int} {t : Tok} {Q : Value → Shared → Prop} (h0 : 0 ≤ n) (h1 : n ≤ 16777216) (h : ∀ t k, Q (.bytes (Array.replicate n.toNat 0) t) { s with toks := k }) :
    wpAny (model prog w) A (call (.type "bytes") [.int n t]) Q E s := by
  refine callType_codes F.bm_called (F.bm_typeCall _) F.entry_object_init (Q₁ := fun v s₁ => ∃ t k, v = .bytes (Array.replicate n.toNat 0) t ∧ s₁ = { s with toks := k }) ?_ ?_
  · refine codeAny_of_tree ?_
    show wpAny _ A.in1.in1 (do checkBuiltinCall "bytes.__new__" ⟨[.type "bytes", .int n t], []⟩; again (.builtin "bytes.__new__" ⟨[.type "bytes", .int n t], []⟩)) _ _ s
    refine wpAny_bind (wpAny_of_eq (F.bm_newCall _) (wpAny_pure ⟨plainId_quiet F.bm_plain _, codeAny_builtin F.bm_entry ?_⟩))
    rw [Around.under_plainId F.bm_plain _]
    unfold Builtin.«bytes.__new__»
    refine wpAny_bind (wpAny_of_eq (a := true) rfl ?_)
    refine bm_if_false rfl ?_
    refine wpAny_bind (wpAny_of_eq F.bm_sub ?_)
    refine bm_if_false rfl ?_
    refine wpAny_bind (wpAny_of_eq (F.bm_bind _) ?_)
    refine wpAny_bind (wpAny_of_eq (a := ()) rfl ?_)
    refine wpAny_bind (wpAny_of_eq (a := ()) rfl ?_)
    refine bm_if_false rfl ?_
    have noB : typeLookup (.type "int") "__bytes__" = pure none := by rw [typeLookup_type, builtinLookup_eq_fast]; kernel_rfl
    refine wpAny_bind (wpAny_specialOf (typeIs_int s n t) noB ?_)
    refine wpAny_bind (wpAny_of_eq (a := false) rfl ?_)
    refine bm_if_false rfl ?_
    refine wpAny_bind (wpAny_specialOf (typeIs_int s n t) F.slot_int_index.lookup ?_)
    refine bm_if_false rfl ?_
    refine wpAny_bind (wpAny_attempt (wpAny_of_eq (rfl : asIndex (.int n t) = pure n) ?_))
    dsimp only
    have e1 : Bytes.fitsIndex n = true := by simp only [Bytes.fitsIndex, Bool.and_eq_true, decide_eq_true_eq]; omega
    have e2 : Bytes.tooLong n.toNat = false := by unfold Bytes.tooLong; rw [sizeLine_eq]; exact decide_eq_false (by omega)
    simp only [e1, e2, Bool.not_true, Bool.false_eq_true, if_false]
    rw [if_neg (by omega), if_neg (by omega)]
    refine wpAny_bind (wpAny_rule (wpAny_bind (wpAny_mkBytes ?_ (by rw [sizeLine_eq]; simp; omega))))
    exact wpAny_pure ⟨_, _, rfl, rfl⟩
  · rintro obj s₁ ⟨t, k, rfl, rfl⟩
    have ht : ({ s with toks := k } : Shared).TypeIs (.bytes (Array.replicate n.toNat 0) t) "bytes" := typeIs_bytes _ _ _
    exact ⟨ht, by unfold argsOk; kernel_rfl, object_init_meets (self := .bytes (Array.replicate n.toNat 0) t) (rest := [.int n t]) F.bm_called.init.lookup F.bm_called.made (by decide) prog w A.in1 _ _ ⟨ht, rfl, h t k⟩⟩
theorem by_call_ba' {ks : List Int} {Q : Value → Shared → Prop} (ho : s.heap.get? a = some (baObj b)) (hk : KBw.bInts b = ks) (hz : ks.length ≤ 16777216) (h : ∀ t k, Q (.bytes b t) { s with toks := k }) :
    wpAny (model prog w) A (call (.type "bytes") [.ref a]) Q E s := by_call_ba ho (by rw [← KBw.ints_length, hk]; exact hz) h
end
end
section
theorem off_NzF : True := by
  w_top off
  trivial
open PySem PySem.W PySem.Calls PyProof.Rows PySem.Builtin
theorem forIn_two {α σ : Type} (l : List α) (f : α → σ → Sem (ForInStep σ)) (s0 s1 : σ) (h0 : ∀ x, f x s0 = pure (.yield s1)) (h1 : ∀ x, f x s1 = pure (.done s1)) :
    forIn l s0 f = (pure (if l.isEmpty then s0 else s1) : Sem σ) := by
  cases l with
  | nil => rfl
  | cons a r =>
    rw [List.forIn_cons, h0]
    show (forIn r s1 f : Sem σ) = pure s1
    cases r with
    | nil => rfl
    | cons b r =>
      rw [List.forIn_cons, h1]
      rfl
/-- the octets of a text: UTF-8 -/
def encB (x : Str) : Array UInt8 := x.cps.foldl (fun acc y => acc ++ (Str.utf8Of y).toArray) #[]
namespace HEncNarrow
def SS (id_K : String) (self_K : Value) (x_K : Str) : Prop := (∀ c ∈ x_K.cps, Str.isSurrogate c = false) → (encB x_K).size ≤ 16777216 → _codecs.encodeNarrow id_K _codecs.utf8Codec none self_K x_K = pure (encB x_K)
noncomputable def kk : String × Value × Str := Classical.epsilon fun y => ¬ SS y.1 y.2.1 y.2.2
@[irreducible] noncomputable def id_K : String := kk.1
@[irreducible] noncomputable def self_K : Value := kk.2.1
@[irreducible] noncomputable def x_K : Str := kk.2.2
end HEncNarrow
open HEncNarrow in
theorem HEncNarrow.main (hx : ∀ c ∈ x_K.cps, Str.isSurrogate c = false) (hz : (encB x_K).size ≤ 16777216) : _codecs.encodeNarrow id_K _codecs.utf8Codec none self_K x_K = pure (encB x_K) := by
  have hsz : x_K.length = x_K.cps.size := rfl
  have hf : Array.findIdx? _codecs.utf8Codec.bad x_K.cps = none := Array.findIdx?_eq_none_iff.mpr fun c hc => hx c hc
  have he : x_K.cps.extract 0 x_K.cps.size = x_K.cps := by simp
  unfold _codecs.encodeNarrow
  dsimp only
  rw [Std.Legacy.Range.forIn_eq_forIn_range']
  by_cases h0 : x_K.cps.size = 0
  · have : x_K.cps = #[] := Array.eq_empty_of_size_eq_zero h0
    have e : encB x_K = #[] := by unfold encB; rw [this]; rfl
    rw [e]
    simp only [Std.Legacy.Range.size, hsz, h0]
    rfl
  have hpos : 0 < x_K.cps.size := Nat.pos_of_ne_zero h0
  rw [forIn_two _ _ _ (x_K.cps.size, encB x_K, {})]
  · show (pure _ : Sem (Array UInt8)) = _
    congr 1
    have hl : ∀ n, 0 < n → (List.range' 0 n 1).isEmpty = false := fun n hn => by
      cases n with
      | zero => exact absurd hn (by decide)
      | succ k => simp [List.range'_succ]
    simp only [Std.Legacy.Range.size, Nat.div_one]
    rw [hl _ (by rw [hsz]; omega)]
    rfl
  · intro y
    dsimp only
    rw [if_neg (by simp)]
    obtain ⟨c, hc⟩ : ∃ c, x_K.cps[0]? = some c := ⟨_, Array.getElem?_eq_getElem hpos⟩
    have hb : _codecs.utf8Codec.bad c = false := hx c (Array.mem_of_getElem? hc)
    rw [hc]
    dsimp only
    rw [if_pos (by rw [hb]; rfl), he, hf]
    simp only [Option.getD_none, Nat.zero_add, he]
    rfl
  · intro y
    dsimp only
    rw [if_neg (by rw [sizeLine_eq]; omega)]
    rw [show x_K.cps[x_K.cps.size]? = none by simp]
theorem enc_narrow (id : String) (self : Value) (x : Str) (hx : ∀ c ∈ x.cps, Str.isSurrogate c = false) (hz : (encB x).size ≤ 16777216) : _codecs.encodeNarrow id _codecs.utf8Codec none self x = pure (encB x) := by
  refine henk (P := fun y => HEncNarrow.SS y.1 y.2.1 y.2.2) ?_ (id, self, x) hx hz
  intro hx hz
  with_unfolding_all exact HEncNarrow.main hx hz
theorem utf8_le (y : Nat) : (Str.utf8Of y).length ≤ 4 := by
  unfold Str.utf8Of
  repeat' split
  all_goals simp
theorem encB_size (x : Str) : (encB x).size ≤ 4 * x.length := by
  have key : ∀ (l : List Nat) (acc : Array UInt8), (l.foldl (fun acc y => acc ++ (Str.utf8Of y).toArray) acc).size ≤ acc.size + 4 * l.length := by
    intro l
    induction l with
    | nil => intro acc; simp
    | cons a r ih =>
      intro acc
      rw [List.foldl_cons]
      refine Nat.le_trans (ih _) ?_
      have := utf8_le a
      simp only [Array.size_append, List.size_toArray, List.length_cons]
      omega
  have := key x.cps.toList #[]
  rw [Array.foldl_toList] at this
  simpa [encB, PySem.Str.length] using this
section
variable {prog : Program} {w : World} {A : Around} {E : Value → Shared → Prop} {s : Shared}
theorem enc_method {x : Str} {t : Tok} {pl : Sem Bool} {Q : Value × List Value → Shared → Prop} (h : Q (.builtin "str.encode", [.str x t]) s) : wpAny (model prog w) A (getMethod (.str x t) "encode" pl) Q E s :=
  getMethod_builtin (typeIs_str _ _ _) F.plainAttrs_str F.slot_str_encode F.type_str_encode (fun _ e => nomatch e) h
theorem enc_call {x : Str} {t : Tok} {Q : Value → Shared → Prop} (hx : ∀ c ∈ x.cps, Str.isSurrogate c = false) (hz : x.length ≤ 100000) (h : ∀ t' k, Q (.bytes (encB x) t') { s with toks := k }) :
    wpAny (model prog w) A (call (.builtin "str.encode") [.str x t]) Q E s := by
  have hs := encB_size x
  refine wpAny_call_entry F.slot_str_encode (typeIs_str _ _ _) F.entry_str_encode ?_ (F.args_str_encode_1 _)
  rw [encode_tree, encodeRoad_utf8, enc_narrow _ _ _ hx (by omega)]
  show wpAny _ _ ((mkBytes (encB x)) >>= fun v => ret v) _ _ _
  exact wpAny_bind (wpAny_mkBytes (wpAny_pure ⟨_, rfl, h _ _⟩) (by rw [sizeLine_eq]; omega))
end
end
section
theorem off_NzG : True := by
  w_top off
  trivial
open PySem PySem.W PySem.Calls PyProof.Rows PySem.Builtin
theorem bi_slot_iter : Slot "bytearray" "__iter__" "bytearray.__iter__" :=
  .of (owner := "bytearray") (n := "__iter__") (by rw [typeLookup_type, builtinLookup_eq_fast]; kernel_rfl) (by decide +kernel) (by decide +kernel) (by decide +kernel)
    (by first | exact .inl (by decide +kernel) | exact .inr (by decide +kernel)) (by rw [isSubtype_type]; kernel_rfl)
theorem bi_slot_next : Slot "bytearray_iterator" "__next__" "bytearray_iterator.__next__" :=
  .of (owner := "bytearray_iterator") (n := "__next__") (by rw [typeLookup_type, builtinLookup_eq_fast]; kernel_rfl) (by decide +kernel) (by decide +kernel) (by decide +kernel)
    (by first | exact .inl (by decide +kernel) | exact .inr (by decide +kernel)) (by rw [isSubtype_type]; kernel_rfl)
theorem bi_slot_self : Slot "bytearray_iterator" "__iter__" "bytearray_iterator.__iter__" :=
  .of (owner := "bytearray_iterator") (n := "__iter__") (by rw [typeLookup_type, builtinLookup_eq_fast]; kernel_rfl) (by decide +kernel) (by decide +kernel) (by decide +kernel)
    (by first | exact .inl (by decide +kernel) | exact .inr (by decide +kernel)) (by rw [isSubtype_type]; kernel_rfl)
theorem bi_entry_iter : entryFor table "bytearray.__iter__" = some Builtin.«bytearray.__iter__» := entryFor_of_tree (by kernel_rfl)
theorem bi_entry_next : entryFor table "bytearray_iterator.__next__" = some Builtin.«bytearray_iterator.__next__» := entryFor_of_tree (by kernel_rfl)
theorem bi_entry_self : entryFor table "bytearray_iterator.__iter__" = some Builtin.«dict_keyiterator.__iter__» := entryFor_alias (id' := "dict_keyiterator.__iter__") (by rw [fastTable_eq_tree]; kernel_rfl) (by kernel_rfl) (by kernel_rfl) (by rw [fastTable_eq_tree]; kernel_rfl)
theorem bi_args_iter (a : Value) : argsOk "bytearray.__iter__" ⟨[a], []⟩ := by unfold argsOk; kernel_rfl
theorem bi_args_next (a : Value) : argsOk "bytearray_iterator.__next__" ⟨[a], []⟩ := by unfold argsOk; kernel_rfl
theorem bi_args_self (a : Value) : argsOk "bytearray_iterator.__iter__" ⟨[a], []⟩ := by unfold argsOk; kernel_rfl
def IsBaIter (h : Heap) (I a : Addr) (i : Nat) : Prop := ∃ o, h.get? I = some o ∧ o.cls = .type "bytearray_iterator" ∧ o.data = .fields #[.ref a, .int i 0]
theorem bi_type {s : Shared} {I a : Addr} {i : Nat} (y : IsBaIter s.heap I a i) : s.TypeIs (.ref I) "bytearray_iterator" := let ⟨o, ho, hc, _⟩ := y; ⟨o, ho, hc⟩
section
variable {prog : Program} {w : World} {A : Around} {E : Value → Shared → Prop} {s : Shared} {a I : Addr} {b : Array UInt8} {i : Nat}
theorem bi_iter {Q : Value → Shared → Prop} (ho : s.heap.get? a = some (baObj b)) (hQ : Q (.ref s.heap.objs.size) { s with heap := s.heap.push { cls := .type "bytearray_iterator", data := .fields #[.ref a, .int 0 0] } }) : wpAny (model prog w) A (pyIter (.ref a)) Q E s := by
  have hT := ba_type ho rfl
  refine wpAny_pyIter_slot hT bi_slot_iter (wpAny_call_entry bi_slot_iter hT bi_entry_iter ?_ (bi_args_iter _))
  show wpAny _ _ (do ret (← newFields "bytearray_iterator" [.ref a, rawInt 0])) _ _ s
  exact wpAny_bind (wpAny_newObj_type (wpAny_pure ⟨_, rfl, "bytearray_iterator", _, ⟨_, Heap.get?_push_size _ rfl, rfl⟩, bi_slot_next.lookup, hQ⟩))
theorem bi_self {Q : Value → Shared → Prop} (hit : IsBaIter s.heap I a i) (h : Q (.ref I) s) : wpAny (model prog w) A (pyIter (.ref I)) Q E s := by
  refine wpAny_pyIter_slot (bi_type hit) bi_slot_self (wpAny_call_entry bi_slot_self (bi_type hit) bi_entry_self ?_ (bi_args_self _))
  show wpAny _ _ (ret (.ref I)) _ _ s
  exact wpAny_pure ⟨_, rfl, "bytearray_iterator", _, bi_type hit, bi_slot_next.lookup, h⟩
theorem bi_next {c : UInt8} {Q : Option Value → Shared → Prop} (hit : IsBaIter s.heap I a i) (ho : s.heap.get? a = some (baObj b)) (hx : b[i]? = some c)
    (hQ : ∀ h', IsBaIter h' I a (i + 1) → Heap.SameBut I s.heap h' → Q (some (.int (c.toNat : Int) s.toks)) { s with heap := h', toks := s.toks + 1 }) : wpAny (model prog w) A (pyNext (.ref I)) Q E s := by
  obtain ⟨o, hi, hc, hd⟩ := id hit
  unfold pyNext
  refine wpAny_bind (wpAny_attempt (wpAny_callSpecial?_slot (name := PySem.Str.ofString "__next__") (bi_type hit) bi_slot_next
    (wpAny_call_entry bi_slot_next (bi_type hit) bi_entry_next ?_ (bi_args_next _))))
  show wpAny _ _ (field (.ref I) 0 >>= _) _ _ s
  refine wpAny_bind (wpAny_field hi hd (x := .ref a) rfl ?_)
  show wpAny _ _ (load a >>= _) _ _ s
  refine wpAny_bind (wpAny_load ho ?_)
  show wpAny _ _ (field (.ref I) 1 >>= _) _ _ s
  refine wpAny_bind (wpAny_field hi hd (x := .int i 0) rfl ?_)
  simp only [Int.toNat_natCast, hx]
  refine wpAny_bind (wpAny_setField hi hd (by simp) (wpAny_bind (wpAny_mkInt (wpAny_pure ⟨_, rfl, wpAny_pure (hQ _ ?_ (Heap.SameBut.update ..))⟩))))
  exact ⟨_, Heap.get?_update_self _ hi (Obj.isFreed_of_fields (Obj.data_mapFields hd _)), (Obj.cls_mapFields ..).trans hc, by
    rw [Obj.data_mapFields hd]; simp [rawInt]⟩
theorem bi_end {Q : Option Value → Shared → Prop} (hh : A.handled = none) (hit : IsBaIter s.heap I a i) (ho : s.heap.get? a = some (baObj b)) (hx : b[i]? = none)
    (hQ : ∀ h', Heap.ExtBut I s.heap h' → Q none { s with heap := h' }) : wpAny (model prog w) A (pyNext (.ref I)) Q E s := by
  obtain ⟨o, hi, hc, hd⟩ := id hit
  unfold pyNext
  refine wpAny_bind (wpAny_attempt (wpAny_callSpecial?_slot (name := PySem.Str.ofString "__next__") (bi_type hit) bi_slot_next
    (wpAny_call_entry bi_slot_next (bi_type hit) bi_entry_next ?_ (bi_args_next _))))
  show wpAny _ _ (field (.ref I) 0 >>= _) _ _ s
  refine wpAny_bind (wpAny_field hi hd (x := .ref a) rfl ?_)
  show wpAny _ _ (load a >>= _) _ _ s
  refine wpAny_bind (wpAny_load ho ?_)
  show wpAny _ _ (field (.ref I) 1 >>= _) _ _ s
  refine wpAny_bind (wpAny_field hi hd (x := .int i 0) rfl ?_)
  simp only [Int.toNat_natCast, hx]
  refine wpAny_bind (wpAny_rule (wpAny_bind (wpAny_setField hi hd (by simp) (wpAny_bind (wpAny_letGo ?_)))))
  show wpAny _ _ (newExc (.type "StopIteration") [] >>= _) _ _ _
  refine wpAny_bind ?_
  simp only [newExc, newTuple]
  refine wpAny_bind (wpAny_newObj_type ?_ (by size_fits))
  refine wpAny_bind (m := firstArgMember _ _) (wpAny_of_eq (a := Value.none) (by first | rfl | (simp only [firstArgMember]; rfl)) ?_)
  refine wpAny_newObj_type ?_ (by size_fits)
  simp only [raiseNew]
  refine wpAny_bind (wpAny_handled ?_)
  rw [show A.in1.handled = none from hh]
  refine wpAny_bind (wpAny_pure (wpAny_throw ?_))
  refine wpAny_bind (wpAny_isInstance (T := "StopIteration") (b := true) ⟨_, Heap.get?_push_size _ rfl, rfl⟩ isSubtype_stop ?_)
  exact wpAny_pure (hQ _ (((Heap.SameBut.update ..).extBut.push _).push _))
theorem bi_walks (hh : A.handled = none) (hIa : I ≠ a) : Walks prog w A I [I, a] [I] b.size (fun i v => ∃ (c : UInt8) (u : Tok), b[i]? = some c ∧ v = Value.int (c.toNat : Int) u) (fun i h => IsBaIter h I a i ∧ h.get? a = some (baObj b)) where
  sub := fun _ hb => List.mem_cons.mpr (.inl (List.mem_singleton.mp hb))
  frame := fun _ _ _ st hk => let ⟨⟨o, ho, r⟩, hb⟩ := st; ⟨⟨o, hk I (by simp) o ho, r⟩, hk a (by simp) _ hb⟩
  item := fun i s Q E hi st hQ => by
    refine bi_next st.1 st.2 (c := b[i]) (by simp [hi]) fun h' hit' hs' => ?_
    exact hQ _ h' (s.toks + 1) ⟨_, _, by simp [hi], rfl⟩ ⟨hit', (hs'.2 a (Ne.symm hIa)).trans st.2⟩ fun b o hb e => hs'.extBut b o (fun h => hb (by simp [h])) e
  done := fun s Q E st hQ => bi_end hh st.1 st.2 (by simp) fun h' he' => hQ h' s.toks fun b o hb e => he' b o (fun h => hb (by simp [h])) e
  self := fun _ _ _ _ st hQ => bi_self st.1 hQ
theorem bi_silent : typeLookup (.type "bytearray") "__len__" = pure (some (.builtin "bytearray.__len__")) := by rw [typeLookup_type, builtinLookup_eq_fast]; kernel_rfl
theorem bi_hint {Q : Bool → Shared → Prop} (ho : s.heap.get? a = some (baObj b)) (h : Q false s) : wpAny (model prog w) A (Builtin.List.listLengthHint (.ref a)) Q E s := by
  have hT := ba_type ho rfl
  unfold Builtin.List.listLengthHint
  refine wpAny_bind (wpAny_specialOf hT bi_silent ?_)
  generalize hid : ("bytearray.__len__" : String) = id0
  wp_delta
  rw [show splitId id0 = some ("bytearray", "__len__") from by subst hid; decide +kernel]
  subst hid
  refine wpAny_bind (wpAny_isInstance (T := "bytearray") (b := true) hT (by rw [isSubtype_type]; kernel_rfl) ?_)
  refine wpAny_ite_split (fun hab => absurd hab (by decide)) (fun _ => ?_)
  refine wpAny_ite_split (fun _ => ?_) (fun hab => absurd (by decide +kernel) hab)
  exact wpAny_bind (wpAny_typeOf hT (wpAny_pure h))
theorem list_ba_init {R : Result → Shared → Prop} (hh : A.handled = none) (ho : s.heap.get? a = some (baObj b)) (hz : b.size ≤ 16777216) (S : Addr) (hS : s.heap.get? S = some { cls := .type "list", data := .seq #[] })
    (hR : ∀ h' tk acc' c', (∀ b o, b ≠ S → s.heap.get? b = some o → h'.get? b = some o) → h'.get? S = some { cls := .type "list", dict := none, data := .seq acc' c', slots := #[] } →
      ItemsOf (fun i v => ∃ (c : UInt8) (u : Tok), b[i]? = some c ∧ v = Value.int (c.toNat : Int) u) acc' b.size → R (.ok (.ret .none)) { s with heap := h', toks := tk }) :
    wpAny (model prog w) A.in1 (Builtin.«list.__init__» ⟨[.ref S, .ref a], []⟩)
      (fun fin s' => match fin with | .done f => R (.ok f) s' | .again c' => c'.quiet = true ∧ codeAny (model prog w) A c' R s') (fun e s' => R (.error e) s') s := by
  have hSa : S ≠ a := fun e => by rw [e, ho] at hS; simp at hS
  show wpAny _ _ (do let old ← Builtin.List.listItems (.ref S); Builtin.List.listUpdate (.ref S) (fun _ => #[]); letGo old.toList.reverse; Builtin.List.listExtendWith (.ref S) (.ref a) .none) _ _ s
  refine wpAny_bind ?_
  unfold Builtin.List.listItems
  refine wpAny_bind (wpAny_seqItems hS rfl (wpAny_pure ?_))
  show wpAny _ _ (updateSeq S (fun _ => #[]) >>= fun _ => letGo (#[] : Array Value).toList.reverse >>= fun _ => Builtin.List.listExtendWith (.ref S) (.ref a) .none) _ _ s
  refine wpAny_bind (wpAny_updateSeq hS rfl ?_)
  have hS₂ := Heap.get?_update_self (Obj.mapSeq (fun _ => (#[] : Array Value))) hS rfl
  have oth : ∀ b o, b ≠ S → s.heap.get? b = some o → (s.heap.update S (Obj.mapSeq (fun _ => (#[] : Array Value)))).get? b = some o :=
    fun b o hb e => (Heap.get?_update_other _ _ (Ne.symm hb)).trans e
  refine wpAny_bind (wpAny_letGo ?_)
  have ho₂ := oth a _ (Ne.symm hSa) ho
  have hT₂ : Shared.TypeIs { s with heap := s.heap.update S (Obj.mapSeq (fun _ => (#[] : Array Value))) } (.ref a) "bytearray" := ⟨_, ho₂, rfl⟩
  have hsz : (s.heap.update S (Obj.mapSeq (fun _ => (#[] : Array Value)))).objs.size = s.heap.objs.size := Heap.size_after_update ..
  unfold Builtin.List.listExtendWith
  refine wpAny_bind (wpAny_typeOf hT₂ ?_)
  have h1 : Builtin.List.listSameRef (.ref S) (.ref a) = false := by simp [Builtin.List.listSameRef, hSa]
  have h2 : (Value.type "bytearray" == Value.type "list") = false := by decide
  have h3 : (Value.type "bytearray" == Value.type "tuple") = false := by decide
  simp only [h1, h2, h3, Bool.or_false, Bool.false_eq_true, if_false]
  refine wpAny_bind (bi_iter ho₂ ?_)
  refine wpAny_bind (wpAny_holding (bi_hint (Heap.get?_push_of_some _ ho₂) ?_))
  refine wpAny_ite_split (fun hab => absurd hab (by decide +kernel)) (fun _ => ?_)
  have hSlt : S < s.heap.objs.size := Heap.lt_size hS
  have halt : a < s.heap.objs.size := Heap.lt_size ho
  refine wpAny_pure ⟨plainId_quiet F.plain_extend_loop _, ?_⟩
  rw [hsz]
  have W := (bi_walks (prog := prog) (w := w) (A := A.in1) (I := s.heap.objs.size) (a := a) (b := b) hh (Nat.ne_of_gt halt)).toS
  refine codeAny_extend_loopS W (by rw [sizeLine_eq]; exact hz) S (fun hm => ?_) .none b.size 0 _ #[] _ rfl (Nat.zero_le _) ⟨⟨{ cls := .type "bytearray_iterator", data := .fields #[.ref a, .int 0 0] }, ?_, rfl, rfl⟩, Heap.get?_push_of_some _ ho₂⟩ (Heap.get?_push_of_some _ hS₂) (ItemsOf.nil _) fun s' acc' c' hm hS' hacc => ?_
  · rcases List.mem_cons.mp hm with e | hm
    · exact absurd e (Nat.ne_of_lt hSlt)
    · exact hSa (List.mem_singleton.mp hm)
  · rw [← hsz]; exact Heap.get?_push_size _ rfl
  · rw [Moved.eq_with hm]
    refine hR s'.heap s'.toks acc' c' (fun b o hb e => hm.heap b o (fun hmem => ?_) (Heap.get?_push_of_some _ (oth b o hb e))) hS' hacc
    rcases List.mem_cons.mp hmem with e' | hmem
    · exact hb e'
    · exact absurd (Heap.lt_size e) (by rw [List.mem_singleton.mp hmem]; exact Nat.lt_irrefl _)
theorem items_ints {b : Array UInt8} {acc : Array Value} (h : ItemsOf (fun i v => ∃ (c : UInt8) (u : Tok), b[i]? = some c ∧ v = Value.int (c.toNat : Int) u) acc b.size) : IntsAre acc.toList (KBw.bInts b) := by
  obtain ⟨hz, hp⟩ := h
  have key : ∀ (l : List Value) (m : List UInt8), l.length = m.length → (∀ (j : Nat) (v : Value), l[j]? = some v → ∃ (c : UInt8) (u : Tok), m[j]? = some c ∧ v = Value.int (c.toNat : Int) u) → IntsAre l (m.map fun c => (c.toNat : Int)) := by
    intro l
    induction l with
    | nil => intro m hm _; cases m with
      | nil => exact .nil
      | cons _ _ => cases hm
    | cons v r ih =>
      intro m hm hq
      cases m with
      | nil => cases hm
      | cons c m =>
        obtain ⟨c', u, hc, rfl⟩ := hq 0 v rfl
        cases hc
        exact .cons _ _ (ih m (by simpa using hm) fun j v hj => hq (j + 1) v hj)
  refine key acc.toList b.toList (by simpa using hz) fun j v hj => ?_
  obtain ⟨c, u, hc, rfl⟩ := hp j v (by rw [← Array.getElem?_toList]; exact hj)
  exact ⟨c, u, by rw [Array.getElem?_toList]; exact hc, rfl⟩
variable {h₀ : Heap} {L : Addr} {m : Str → Option Value} {news : Led} {ks : List Int}
theorem list_ba {Q : Value → Shared → Prop} (F : Fr h₀ L s.heap m) (N : News h₀ L s.heap news) (hh : A.handled = none) (hm : (a, baObj b) ∈ news) (hk : KBw.bInts b = ks) (hz : ks.length ≤ 16777216)
    (h : ∀ l vs n h' tk, IntsAre vs ks → Fr h₀ L h' m → News h₀ L h' ((l, listOf vs.toArray n) :: news) → (∀ p ∈ news, p.1 < l) → Q (.ref l) { s with heap := h', toks := tk }) :
    wpAny (model prog w) A (call (.type "list") [.ref a]) Q E s := by
  have ho := (N _ hm).1
  have hz' : b.size ≤ 16777216 := by rw [← KBw.ints_length, hk]; exact hz
  refine callType_codes (Q₁ := fun obj s₁ => obj = .ref s.heap.objs.size ∧ s₁ = { s with heap := s.heap.push { cls := .type "list", data := .seq #[] } }) PySem.F.called_list (PySem.F.typeCall_list_1 _) PySem.F.entry_list_init
    (code_list_new _ ⟨rfl, rfl⟩) fun obj s₁ h₁ => ?_
  obtain ⟨rfl, rfl⟩ := h₁
  have hS : (s.heap.push { cls := .type "list", data := .seq #[] }).get? s.heap.objs.size = some { cls := .type "list", data := .seq #[] } := Heap.get?_push_size _ rfl
  refine ⟨⟨_, hS, rfl⟩, PySem.F.args_list_init_2 _ _, list_ba_init (A := A.in1) hh (Heap.get?_push_of_some _ ho) hz' _ hS fun h' tk acc' c' hkp hS' hacc => ?_⟩
  have keep : ∀ c o, s.heap.get? c = some o → h'.get? c = some o := fun c o e => hkp c o (Nat.ne_of_lt (Heap.lt_size e)) (Heap.get?_push_of_some _ e)
  obtain ⟨oL, es, ep, hL, r⟩ := F.ns
  refine ⟨rfl, h _ acc'.toList c' h' tk (hk ▸ items_ints hacc) ⟨⟨oL, es, ep, keep _ _ hL, r⟩, fun b o e => keep b o (F.keep b o e), F.above⟩ (fun p hp => ?_) fun p hp => Heap.lt_size (N p hp).1⟩
  rcases List.mem_cons.mp hp with rfl | hp
  · refine ⟨hS', fun e => absurd (show s.heap.objs.size = L from e) (Nat.ne_of_gt (Heap.lt_size hL)), ?_⟩
    cases q : h₀.get? s.heap.objs.size with
    | none => rfl
    | some o => exact absurd (Heap.lt_size (F.keep _ _ q)) (Nat.lt_irrefl _)
  · exact ⟨keep _ _ (N p hp).1, (N p hp).2⟩
end
end
section
theorem off_NzI : True := by
  w_top off
  trivial
open PySem PySem.W PySem.Calls PyProof.Rows PySem.Builtin
theorem bs_noidx : typeLookup (.type "bytes") (Str.ofString "__index__") = pure none := ba_bytes_noindex
theorem bs_noint : typeLookup (.type "bytes") (Str.ofString "__int__") = pure none := by rw [typeLookup_type, builtinLookup_eq_fast]; kernel_rfl
theorem bs_nofloat : typeLookup (.type "bytes") (Str.ofString "__float__") = pure none := by rw [typeLookup_type, builtinLookup_eq_fast]; kernel_rfl
section
variable {prog : Program} {w : World} {A : Around} {E : Value → Shared → Prop} {s : Shared} {a sl : Addr} {b c : Array UInt8} {h₀ : Heap} {L : Addr} {m : Str → Option Value} {news : Led} {ks ls : List Int}
theorem wpAny_or {M : Model} {x y : Sem Bool} {Q : Bool → Shared → Prop} (h : wpAny M A x (fun b s' => if b then Q true s' else wpAny M A y Q E s') E s) : wpAny M A (x <||> y) Q E s := by
  show wpAny M A (x >>= fun b => match toBool b with | true => pure b | false => y) Q E s
  refine wpAny_bind (wpAny_mono h (fun b s' h' => ?_) fun _ _ e => e)
  cases b with
  | true => exact wpAny_pure h'
  | false => exact h'
theorem bs_parts {lo hi : Int} {tl th : Tok} {Q : Value × Value × Value → Shared → Prop} (hs : s.heap.IsSliceOf sl (.int lo tl) (.int hi th) .none) (h : Q (rawInt lo, rawInt hi, .none) s) :
    wpAny (model prog w) A (Bytes.sliceParts (.ref sl)) Q E s := by
  obtain ⟨o, ho, hc, hd⟩ := hs
  unfold Bytes.sliceParts
  refine wpAny_bind (wpAny_field (x := .none) ho hd rfl ?_)
  kby_none
  refine wpAny_ite (KBy.ite_no (show ¬ ((Value.none == rawInt 0) = true) from Bool.false_ne_true) ?_)
  refine wpAny_bind (wpAny_field (x := .int lo tl) ho hd rfl ?_)
  kby_int
  refine wpAny_bind (wpAny_field (x := .int hi th) ho hd rfl ?_)
  kby_int
  exact wpAny_pure h
theorem ba_callB' {t : Tok} {Q : Value → Shared → Prop} (F : Fr h₀ L s.heap m) (N : News h₀ L s.heap news) (h1 : b.size ≤ 16777216)
    (h : ∀ a h', Fr h₀ L h' m → News h₀ L h' ((a, baObj b) :: news) → (∀ p ∈ news, p.1 < a) → (∀ c o, s.heap.get? c = some o → h'.get? c = some o) → Q (.ref a) { s with heap := h' }) : wpC (model prog w) A (call (.type "bytearray") [.bytes b t]) Q E s :=
  ba_make (ba_typeCall1 _) (ba_newCall1 _) (fun _ => ba_args_init1 _ _) (ba_initB (Heap.get?_push_size _ rfl) h1 fun h' hg hk => by
    obtain ⟨a1, a2, a3⟩ := ba_onto F N hg hk
    exact h _ _ a1 a2 a3 fun c o e => hk c o (Nat.ne_of_lt (Heap.lt_size e)) (Heap.get?_push_of_some _ e))
namespace HBsStore
def SS (prog_K : Program) (w_K : World) (A_K : Around) (E_K : Value → Shared → Prop) (s_K : Shared) (a_K : Addr) (sl_K : Addr) (b_K : Array UInt8) (c_K : Array UInt8) (h₀_K : Heap) (L_K : Addr) (m_K : Str → Option Value) (ks_K : List Int) (ls_K : List Int) (lo_K : Int) (hi_K : Int) (tl_K : Tok) (th_K : Tok) (t_K : Tok) (g_K : Obj → Led) (Q_K : Unit → Shared → Prop) : Prop := ∀ (news : Led), Fr h₀_K L_K s_K.heap m_K → News h₀_K L_K s_K.heap news → UpdF a_K (baObj b_K) news g_K → KBw.bInts b_K = ks_K → KBw.bInts c_K = ls_K → s_K.heap.IsSliceOf sl_K (.int lo_K tl_K) (.int hi_K th_K) .none → 0 ≤ lo_K → hi_K = lo_K + ls_K.length → hi_K ≤ ks_K.length → ks_K.length ≤ 16777216 → (∀ b' h' tk, KBw.bInts b' = ks_K.take lo_K.toNat ++ ls_K ++ ks_K.drop hi_K.toNat → Fr h₀_K L_K h' m_K → News h₀_K L_K h' (g_K (baObj b')) → Q_K () { s_K with heap := h', toks := tk }) → wpC (model prog_K w_K) A_K (setItem (.ref a_K) (.ref sl_K) (.bytes c_K t_K)) Q_K E_K s_K
noncomputable def kk : Program × World × Around × (Value → Shared → Prop) × Shared × Addr × Addr × (Array UInt8) × (Array UInt8) × Heap × Addr × (Str → Option Value) × (List Int) × (List Int) × Int × Int × Tok × Tok × Tok × (Obj → Led) × (Unit → Shared → Prop) := Classical.epsilon fun y => ¬ SS y.1 y.2.1 y.2.2.1 y.2.2.2.1 y.2.2.2.2.1 y.2.2.2.2.2.1 y.2.2.2.2.2.2.1 y.2.2.2.2.2.2.2.1 y.2.2.2.2.2.2.2.2.1 y.2.2.2.2.2.2.2.2.2.1 y.2.2.2.2.2.2.2.2.2.2.1 y.2.2.2.2.2.2.2.2.2.2.2.1 y.2.2.2.2.2.2.2.2.2.2.2.2.1 y.2.2.2.2.2.2.2.2.2.2.2.2.2.1 y.2.2.2.2.2.2.2.2.2.2.2.2.2.2.1 y.2.2.2.2.2.2.2.2.2.2.2.2.2.2.2.1 y.2.2.2.2.2.2.2.2.2.2.2.2.2.2.2.2.1 y.2.2.2.2.2.2.2.2.2.2.2.2.2.2.2.2.2.1 y.2.2.2.2.2.2.2.2.2.2.2.2.2.2.2.2.2.2.1 y.2.2.2.2.2.2.2.2.2.2.2.2.2.2.2.2.2.2.2.1 y.2.2.2.2.2.2.2.2.2.2.2.2.2.2.2.2.2.2.2.2
@[irreducible] noncomputable def prog_K : Program := kk.1
@[irreducible] noncomputable def w_K : World := kk.2.1
@[irreducible] noncomputable def A_K : Around := kk.2.2.1
@[irreducible] noncomputable def E_K : Value → Shared → Prop := kk.2.2.2.1
@[irreducible] noncomputable def s_K : Shared := kk.2.2.2.2.1
@[irreducible] noncomputable def a_K : Addr := kk.2.2.2.2.2.1
@[irreducible] noncomputable def sl_K : Addr := kk.2.2.2.2.2.2.1
@[irreducible] noncomputable def b_K : Array UInt8 := kk.2.2.2.2.2.2.2.1
@[irreducible] noncomputable def c_K : Array UInt8 := kk.2.2.2.2.2.2.2.2.1
@[irreducible] noncomputable def h₀_K : Heap := kk.2.2.2.2.2.2.2.2.2.1
@[irreducible] noncomputable def L_K : Addr := kk.2.2.2.2.2.2.2.2.2.2.1
@[irreducible] noncomputable def m_K : Str → Option Value := kk.2.2.2.2.2.2.2.2.2.2.2.1
@[irreducible] noncomputable def ks_K : List Int := kk.2.2.2.2.2.2.2.2.2.2.2.2.1
@[irreducible] noncomputable def ls_K : List Int := kk.2.2.2.2.2.2.2.2.2.2.2.2.2.1
@[irreducible] noncomputable def lo_K : Int := kk.2.2.2.2.2.2.2.2.2.2.2.2.2.2.1
@[irreducible] noncomputable def hi_K : Int := kk.2.2.2.2.2.2.2.2.2.2.2.2.2.2.2.1
@[irreducible] noncomputable def tl_K : Tok := kk.2.2.2.2.2.2.2.2.2.2.2.2.2.2.2.2.1
@[irreducible] noncomputable def th_K : Tok := kk.2.2.2.2.2.2.2.2.2.2.2.2.2.2.2.2.2.1
@[irreducible] noncomputable def t_K : Tok := kk.2.2.2.2.2.2.2.2.2.2.2.2.2.2.2.2.2.2.1
@[irreducible] noncomputable def g_K : Obj → Led := kk.2.2.2.2.2.2.2.2.2.2.2.2.2.2.2.2.2.2.2.1
@[irreducible] noncomputable def Q_K : Unit → Shared → Prop := kk.2.2.2.2.2.2.2.2.2.2.2.2.2.2.2.2.2.2.2.2
end HBsStore
open HBsStore in
theorem HBsStore.main (news : Led) (F : Fr h₀_K L_K s_K.heap m_K) (N : News h₀_K L_K s_K.heap news) (U : UpdF a_K (baObj b_K) news g_K) (hk : KBw.bInts b_K = ks_K) (hl : KBw.bInts c_K = ls_K) (hs : s_K.heap.IsSliceOf sl_K (.int lo_K tl_K) (.int hi_K th_K) .none) (h0 : 0 ≤ lo_K) (h1 : hi_K = lo_K + ls_K.length) (h2 : hi_K ≤ ks_K.length) (h3 : ks_K.length ≤ 16777216) (h : ∀ b' h' tk, KBw.bInts b' = ks_K.take lo_K.toNat ++ ls_K ++ ks_K.drop hi_K.toNat → Fr h₀_K L_K h' m_K → News h₀_K L_K h' (g_K (baObj b')) → Q_K () { s_K with heap := h', toks := tk }) : wpC (model prog_K w_K) A_K (setItem (.ref a_K) (.ref sl_K) (.bytes c_K t_K)) Q_K E_K s_K := by
  obtain ⟨pre, post, rfl, hg, u1, u2⟩ := U.split
  have ho : s_K.heap.get? a_K = some (baObj b_K) := (N (a_K, baObj b_K) (List.mem_append.mpr (.inr (.head _)))).1
  have hT : s_K.TypeIs (.ref a_K) "bytearray" := ⟨_, ho, rfl⟩
  have hz : b_K.size = ks_K.length := by rw [← hk, KBw.ints_length]
  have hzc : c_K.size = ls_K.length := by rw [← hl, KBw.ints_length]
  obtain ⟨os, hos, hoc, hod⟩ := id hs
  have hTs : s_K.TypeIs (.ref sl_K) "slice" := ⟨os, hos, hoc⟩
  unfold setItem
  refine wpC_holding ?_
  refine wpC_bindA (wpAny_sequenceKey hT (by decide) ?_)
  refine wpC_bind (wpC_callSpecial?_slot (name := Str.ofString "__setitem__") hT ba_slot_set (wpC_call_entry ba_slot_set hT ba_entry_set rfl ?_ (ba_args_set _ _ _)))
  unfold Builtin.«bytearray.__setitem__»
  simp only [List.isEmpty_nil, Bool.not_true, Bool.false_eq_true, if_false]
  refine wpC_bind ?_
  unfold Bytes.subscript?
  refine wpC_bindA (wpAny_specialOf hTs slice_no_index (wpC_pure ?_))
  dsimp only
  refine wpC_bindA (wpAny_typeOf hTs ?_)
  rw [if_neg (by decide)]
  refine wpC_bindA (bs_parts hs ?_)
  rw [if_neg (by simp [Bytes.sameRef])]
  refine wpC_bindA (wpAny_isInstance (T := "bytes") (b := false) (typeIs_bytes _ _ _) PySem.F.sub_bytes_bytearray ?_)
  rw [if_pos (by decide)]
  refine wpC_bindA (wpAny_or (wpAny_bind (wpAny_of_eq (KBy.special_eq bs_noidx) (wpAny_pure ?_))))
  rw [if_neg (by simp)]
  refine wpAny_or (wpAny_bind (wpAny_of_eq (KBy.special_eq bs_noint) (wpAny_pure ?_)))
  rw [if_neg (by simp)]
  refine wpAny_or (wpAny_bind (wpAny_of_eq (KBy.special_eq bs_nofloat) (wpAny_pure ?_)))
  rw [if_neg (by simp)]
  refine wpAny_isInstance (T := "bytes") (b := false) (typeIs_bytes _ _ _) PySem.F.sub_bytes_complex ?_
  refine wpC_bindA (wpAny_of_eq (rfl : asStr? (.bytes c_K t_K) = pure none) ?_)
  rw [if_neg (by simp)]
  refine wpC_bindA (wpAny_rule ?_)
  refine wpC_bind (ba_callB' F N (by omega) fun x h' F' N' lt' kp' => ?_)
  have hs' : h'.IsSliceOf sl_K (.int lo_K tl_K) (.int hi_K th_K) .none := ⟨os, kp' _ _ hos, hoc, hod⟩
  refine wpC_bind (wpC_holding (wpC_any (bs_parts hs' ?_)))
  have hx : h'.get? x = some (baObj c_K) := (N' _ (.head _)).1
  have ho' : h'.get? a_K = some (baObj b_K) := (N' (a_K, baObj b_K) (.tail _ (List.mem_append.mpr (.inr (.head _))))).1
  refine wpC_bindA (ba_payload hx ?_)
  refine wpC_bindA (ba_payload ho' ?_)
  refine wpC_bindA (wpAny_of_eq (sliceIndices_raw (some lo_K) (some hi_K) none b_K.size (by intro e; cases e)) ?_)
  have hb : sliceBounds (some lo_K) (some hi_K) none b_K.size = (lo_K, hi_K, 1) := by
    unfold sliceBounds
    simp only [Option.getD_none, show (1 : Int) > 0 from by decide, if_true]
    rw [if_neg (by omega), if_neg (by omega)]
    congr 1
    · omega
    · congr 1; omega
  rw [hb]
  dsimp only
  rw [if_pos (by decide)]
  refine wpC_bindA (wpAny_rule ?_)
  have he : ((c_K.size : Int) != max lo_K hi_K - lo_K) = false := by simp only [bne_eq_false_iff_eq]; omega
  rw [if_neg (by rw [he]; decide)]
  have hw : KBw.bInts (b_K.extract 0 lo_K.toNat ++ c_K ++ b_K.extract (max lo_K hi_K).toNat) = ks_K.take lo_K.toNat ++ ls_K ++ ks_K.drop hi_K.toNat := by
    have e1 : KBw.bInts (b_K.extract 0 lo_K.toNat) = ks_K.take lo_K.toNat := by
      rw [← hk]; simp [KBw.bInts, List.map_take]
    have e2 : KBw.bInts (b_K.extract (max lo_K hi_K).toNat) = ks_K.drop hi_K.toNat := by
      rw [show max lo_K hi_K = hi_K by omega, ← hk]; simp only [KBw.bInts, Array.toList_extract, List.extract_eq_take_drop, List.map_take, List.map_drop]
      exact List.take_of_length_le (by simp)
    exact KBw.ints_app (KBw.ints_app e1 hl) e2
  have hwz : (b_K.extract 0 lo_K.toNat ++ c_K ++ b_K.extract (max lo_K hi_K).toNat).size ≤ 16777216 := by
    rw [← KBw.ints_length, hw]
    simp only [List.length_append, List.length_take, List.length_drop]
    omega
  refine wpC_bindA (ba_write ho' hwz ?_)
  have N'' : News h₀_K L_K h' (((x, baObj c_K) :: pre) ++ (a_K, baObj b_K) :: post) := N'
  obtain ⟨F3, N3⟩ := news_upd (f := Obj.mapBytearray fun b_K => b_K.extract 0 lo_K.toNat ++ c_K ++ b_K.extract (max lo_K hi_K).toNat) F' N'' (fun p hp => by
    rcases List.mem_cons.mp hp with rfl | hp
    · exact Nat.ne_of_gt (lt' (a_K, baObj b_K) (List.mem_append.mpr (.inr (.head _))))
    · exact u1 p hp) u2 (o' := baObj (b_K.extract 0 lo_K.toNat ++ c_K ++ b_K.extract (max lo_K hi_K).toNat)) rfl rfl
  exact wpC_pure ⟨.none, rfl, wpC_pure (h _ _ _ hw F3 (hg _ ▸ fun p hp => N3 p (.tail _ hp)))⟩
theorem bs_store {prog : Program} {w : World} {A : Around} {E : Value → Shared → Prop} {s : Shared} {a : Addr} {sl : Addr} {b : Array UInt8} {c : Array UInt8} {h₀ : Heap} {L : Addr} {m : Str → Option Value} {news : Led} {ks : List Int} {ls : List Int} {lo : Int} {hi : Int} {tl : Tok} {th : Tok} {t : Tok} {g : Obj → Led} {Q : Unit → Shared → Prop} (F : Fr h₀ L s.heap m) (N : News h₀ L s.heap news) (U : UpdF a (baObj b) news g) (hk : KBw.bInts b = ks) (hl : KBw.bInts c = ls) (hs : s.heap.IsSliceOf sl (.int lo tl) (.int hi th) .none) (h0 : 0 ≤ lo) (h1 : hi = lo + ls.length) (h2 : hi ≤ ks.length) (h3 : ks.length ≤ 16777216) (h : ∀ b' h' tk, KBw.bInts b' = ks.take lo.toNat ++ ls ++ ks.drop hi.toNat → Fr h₀ L h' m → News h₀ L h' (g (baObj b')) → Q () { s with heap := h', toks := tk }) : wpC (model prog w) A (setItem (.ref a) (.ref sl) (.bytes c t)) Q E s := by
  refine henk (P := fun y => HBsStore.SS y.1 y.2.1 y.2.2.1 y.2.2.2.1 y.2.2.2.2.1 y.2.2.2.2.2.1 y.2.2.2.2.2.2.1 y.2.2.2.2.2.2.2.1 y.2.2.2.2.2.2.2.2.1 y.2.2.2.2.2.2.2.2.2.1 y.2.2.2.2.2.2.2.2.2.2.1 y.2.2.2.2.2.2.2.2.2.2.2.1 y.2.2.2.2.2.2.2.2.2.2.2.2.1 y.2.2.2.2.2.2.2.2.2.2.2.2.2.1 y.2.2.2.2.2.2.2.2.2.2.2.2.2.2.1 y.2.2.2.2.2.2.2.2.2.2.2.2.2.2.2.1 y.2.2.2.2.2.2.2.2.2.2.2.2.2.2.2.2.1 y.2.2.2.2.2.2.2.2.2.2.2.2.2.2.2.2.2.1 y.2.2.2.2.2.2.2.2.2.2.2.2.2.2.2.2.2.2.1 y.2.2.2.2.2.2.2.2.2.2.2.2.2.2.2.2.2.2.2.1 y.2.2.2.2.2.2.2.2.2.2.2.2.2.2.2.2.2.2.2.2) ?_ (prog, w, A, E, s, a, sl, b, c, h₀, L, m, ks, ls, lo, hi, tl, th, t, g, Q) news F N U hk hl hs h0 h1 h2 h3 h
  intro news F N U hk hl hs h0 h1 h2 h3 h
  with_unfolding_all exact HBsStore.main news F N U hk hl hs h0 h1 h2 h3 h
theorem bs_store_new {lo hi : Int} {tl th t : Tok} {g : Obj → Led} {Q : Unit → Shared → Prop} (F : Fr h₀ L s.heap m) (N : News h₀ L s.heap news) (U : UpdF a (baObj b) news g) (hk : KBw.bInts b = ks) (hl : KBw.bInts c = ls)
    (h0 : 0 ≤ lo) (h1 : hi = lo + ls.length) (h2 : hi ≤ ks.length) (h3 : ks.length ≤ 16777216)
    (h : ∀ b' h' tk, KBw.bInts b' = ks.take lo.toNat ++ ls ++ ks.drop hi.toNat → Fr h₀ L h' m → News h₀ L h' (g (baObj b')) → Q () { s with heap := h', toks := tk }) :
    wpC (model prog w) A (setItem (.ref a) (.ref s.heap.objs.size) (.bytes c t)) Q E { s with heap := s.heap.push { cls := .type "slice", data := .fields #[.int lo tl, .int hi th, .none] } } :=
  bs_store (s := { s with heap := s.heap.push { cls := .type "slice", data := .fields #[.int lo tl, .int hi th, .none] } }) (F.push _) (News.pushKeep N _) U hk hl (Heap.IsSliceOf.new _ _ _ _) h0 h1 h2 h3 h
theorem wpC_Assign_Subscript {M : Model} {env : Env} {o i : Expr} {pos' pos : Pos} {value : Expr} {Q : Flow → Shared → Prop}
    (h : wpAny M A (eval value env) (fun v s₁ => wpAny M A (eval o env) (fun ov s₂ => wpAny M A (eval i env) (fun iv s₃ =>
      wpC M A (setItem ov iv v) (fun _ => Q .next) E s₃) E s₂) E s₁) E s)
    (hs : swapsWith value (some (.Subscript o i pos')) pos.line env = pure false := by rfl) :
    wpC M A (exec (.Assign [.Subscript o i pos'] value pos) env) Q E s := fun Γ p hΓ hC => by
  simp only [exec_Assign_Subscript o i pos' value pos hs, assign_Subscript, Sem.wp_bind', Sem.wp_holding, Sem.wp_cmd_standAt, Sem.wp_release, Sem.wp_pure']
  exact Sem.wp_mono M Γ _ (fun v p₁ s₁ h₁ => Sem.wp_mono M Γ _ (fun ov p₂ s₂ h₂ => Sem.wp_mono M Γ _ (fun iv _ s₃ h₃ => h₃ Γ _ hΓ hC)
    (fun _ _ _ h' => h') _ _ (h₂ Γ p₂ hΓ)) (fun _ _ _ h' => h') _ _ (h₁ Γ p₁ hΓ)) (fun _ _ _ h' => h') _ _ (h Γ _ hΓ)
theorem clip_take (ks : List Int) (k : Nat) : ks.take (clipAt ks.length (k : Int)) = ks.take k := by
  rw [clipAt_nat, List.take_eq_take_iff]; omega
end
end
section
local macro_rules | `(tactic| walk_at $s:str) => `(tactic| k_extra $(Lean.Syntax.mkStrLit ("25 " ++ s.getString)))
local macro_rules | `(tactic| walk_at "nz pad") => `(tactic| skip)
local macro_rules | `(tactic| walk_at "nz pad") => `(tactic| skip)
theorem off_NzJ : True := by
  w_top off
  trivial
open PySem PySem.W PySem.Calls PyProof.Rows
theorem kw0_NzJ : True := by
  k_with "25 nz pq" => k_extra "L0"
  k_with "25 nz pn" => k_extra "L1"
  k_with "25 nz pi" => k_extra "L2"
  k_with "25 nz pr" => k_extra "L3"
  k_with "25 nz oo" => k_extra "L4"
  k_with "25 nz zz" => k_extra "L5"
  k_with "25 nz om" => k_extra "L6"
  k_with "25 nz enter" => k_extra "L7"
  k_with "25 nz intro" => k_extra "L8"
  k_with "25 nz go" => k_extra "L9"
  k_with "25 nz end" => k_extra "L10"
  k_with "25 subscriptTail" => k_extra "L11"
  k_with "25 setItem ref int" => k_extra "L12"
  k_with "25 nz side" => k_extra "L13"
  k_with "25 nz pick" => k_extra "L14"
  k_with "25 nz sub" => k_extra "L15"
  k_with "25 nz news" => k_extra "L16"
  k_with "25 nz same" => k_extra "L17"
  k_with "25 nz out" => k_extra "L18"
  k_with "25 nz len" => k_extra "L19"
  k_with "25 getMethod str" => k_extra "L30"
  k_with "25 call builtin:str.encode" => k_extra "L31"
  k_with "25 call type:bytes" => k_extra "L32"
  k_with "25 call type:bytes" => k_extra "L33"
  k_with "25 call type:bytes" => k_extra "L34"
  k_with "25 call builtin:isinstance" => k_extra "L35"
  k_with "25 nz size" => k_extra "L36"
  trivial
theorem c_octets_s (w : World) (x : Str) (t : Tok) (news : Led) (hx : ∀ c ∈ x.cps, Str.isSurrogate c = false) (hz : x.length ≤ 2000) :
    Ctr w 170 [.str x t] 1 8 news (fun r l => (∃ t, r = .bytes (encB x) t) ∧ l = news) NoE := by
  walk_at "nz go"
  walk_at "nz end"
  exact ⟨⟨_, rfl⟩, rfl⟩
theorem c_octets_b (w : World) (b : Array UInt8) (t : Tok) (news : Led) :
    Ctr w 170 [.bytes b t] 1 8 news (fun r l => (∃ t, r = .bytes b t) ∧ l = news) NoE := by
  walk_at "nz go"
  walk_at "nz end"
  exact ⟨⟨_, rfl⟩, rfl⟩
theorem c_octets_a (w : World) (a : Addr) (b : Array UInt8) (ks : List Int) (rest : Led) (hk : KBw.bInts b = ks) (hz : ks.length ≤ 2000) :
    Ctr w 170 [.ref a] 1 8 ((a, baObj b) :: rest) (fun r l => (∃ t, r = .bytes b t) ∧ l = ((a, baObj b) :: rest)) NoE := by
  walk_at "nz go"
  walk_at "nz end"
  exact ⟨⟨_, rfl⟩, rfl⟩
theorem kw1_NzJ : True := by
  k_with "25 call ref" => k_extra "L37"
  k_with "25 call ref" => k_extra "L38"
  k_with "25 call ref" => k_extra "L39"
  trivial
theorem c_cut_b (w : World) (b : Array UInt8) (ks : List Int) (t : Tok) (news : Led) (hk : KBw.bInts b = ks) (hz : ks.length ≤ 2000) :
    Ctr w 177 [.bytes b t] 2 16 news (fun r l => (∃ b' t, r = .bytes b' t ∧ KBw.bInts b' = ks.take 14) ∧ l = news) NoE := by
  walk_at "nz go"
  walk_at "nz end"
  (rename KBw.bInts (KBy.picked _ _ _) = _ => q)
  exact ⟨⟨_, _, rfl, q.trans (clip_take ks 14)⟩, rfl⟩
theorem c_cut_a (w : World) (a : Addr) (b : Array UInt8) (ks : List Int) (rest : Led) (hk : KBw.bInts b = ks) (hz : ks.length ≤ 2000) :
    Ctr w 177 [.ref a] 2 16 ((a, baObj b) :: rest) (fun r l => (∃ b' t, r = .bytes b' t ∧ KBw.bInts b' = ks.take 14) ∧ l = ((a, baObj b) :: rest)) NoE := by
  walk_at "nz go"
  walk_at "nz end"
  (rename KBw.bInts (KBy.picked _ _ _) = _ => q)
  exact ⟨⟨_, _, rfl, q.trans (clip_take ks 14)⟩, rfl⟩
end
section
local macro_rules | `(tactic| walk_at $s:str) => `(tactic| k_extra $(Lean.Syntax.mkStrLit ("26 " ++ s.getString)))
theorem off_NzK : True := by
  w_top off
  trivial
open PySem PySem.W PySem.Calls PyProof.Rows
theorem kw0_NzK : True := by
  k_with "26 nz pq" => k_extra "L0"
  k_with "26 nz pn" => k_extra "L1"
  k_with "26 nz pi" => k_extra "L2"
  k_with "26 nz pr" => k_extra "L3"
  k_with "26 nz oo" => k_extra "L4"
  k_with "26 nz zz" => k_extra "L5"
  k_with "26 nz om" => k_extra "L6"
  k_with "26 nz enter" => k_extra "L7"
  k_with "26 nz intro" => k_extra "L8"
  k_with "26 nz go" => k_extra "L9"
  k_with "26 nz end" => k_extra "L10"
  k_with "26 subscriptTail" => k_extra "L11"
  k_with "26 setItem ref int" => k_extra "L12"
  k_with "26 nz side" => k_extra "L13"
  k_with "26 nz pick" => k_extra "L14"
  k_with "26 nz sub" => k_extra "L15"
  k_with "26 nz news" => k_extra "L16"
  k_with "26 nz same" => k_extra "L17"
  k_with "26 nz out" => k_extra "L18"
  k_with "26 nz len" => k_extra "L19"
  k_with "26 getMethod str" => k_extra "L30"
  k_with "26 call builtin:str.encode" => k_extra "L31"
  k_with "26 call type:bytes" => k_extra "L32"
  k_with "26 call type:bytes" => k_extra "L33"
  k_with "26 call type:bytes" => k_extra "L34"
  k_with "26 call builtin:isinstance" => k_extra "L35"
  k_with "26 nz size" => k_extra "L36"
  k_with "26 nz enterC" => k_extra "L40"
  k_with "26 nz introC" => k_extra "L41"
  k_with "26 nz goC" => k_extra "L42"
  k_with "26 nz steps" => k_extra "L43"
  k_with "26 last wpC" => k_extra "L44"
  k_with "26 wpC" => k_extra "L45"
  k_with "26 wpC" => k_extra "L46"
  k_with "26 wpC" => k_extra "L47"
  k_with "26 wpC" => k_extra "L48"
  k_with "26 wpC" => k_extra "L49"
  k_with "26 wpC" => k_extra "L50"
  k_with "26 wpC" => k_extra "L51"
  k_with "26 wpC" => k_extra "L52"
  k_with "26 wpC" => k_extra "L53"
  k_with "26 wpC" => k_extra "L54"
  k_with "26 wpC" => k_extra "L55"
  k_with "26 wpC" => k_extra "L56"
  k_with "26 wpC" => k_extra "L57"
  k_with "26 wpC" => k_extra "L58"
  k_with "26 wpC" => k_extra "L59"
  k_with "26 wpC" => k_extra "L60"
  k_with "26 wpC" => k_extra "L61"
  k_with "26 getMethod ref" => k_extra "L62"
  k_with "26 call ref" => k_extra "L22"
  trivial
namespace RowH
def SS (w : World) (b : Array UInt8) (ks : List Int) (n : Int) (tn : Tok) (tb : Tok) (news : Led) : Prop := KBw.bInts b = ks → 0 ≤ n → n < 65536 → ks.length ≤ 14 → CtrC w 191 [.int n tn, .bytes b tb] 2 16 news (fun r l => (∃ b' t, r = .bytes b' t ∧ KBw.bInts b' = (putHalf (List.replicate 16 0) 0 n).take 2 ++ ks ++ (putHalf (List.replicate 16 0) 0 n).drop (2 + ks.length)) ∧ l = news)
noncomputable def kk : World × (Array UInt8) × (List Int) × Int × Tok × Tok × Led := Classical.epsilon fun y => ¬ SS y.1 y.2.1 y.2.2.1 y.2.2.2.1 y.2.2.2.2.1 y.2.2.2.2.2.1 y.2.2.2.2.2.2
@[irreducible] noncomputable def w : World := kk.1
@[irreducible] noncomputable def b : Array UInt8 := kk.2.1
@[irreducible] noncomputable def ks : List Int := kk.2.2.1
@[irreducible] noncomputable def n : Int := kk.2.2.2.1
@[irreducible] noncomputable def tn : Tok := kk.2.2.2.2.1
@[irreducible] noncomputable def tb : Tok := kk.2.2.2.2.2.1
@[irreducible] noncomputable def news : Led := kk.2.2.2.2.2.2
noncomputable def yy : Fm := Classical.epsilon fun y => ¬ PremC w 191 [.int n tn, .bytes b tb] 2 16 news (fun r l => (∃ b' t, r = .bytes b' t ∧ KBw.bInts b' = (putHalf (List.replicate 16 0) 0 n).take 2 ++ ks ++ (putHalf (List.replicate 16 0) 0 n).drop (2 + ks.length)) ∧ l = news) y
end RowH
open RowH in
theorem RowH.main (hb : KBw.bInts b = ks) (h0 : 0 ≤ n) (h1 : n < 65536) (h2 : ks.length ≤ 14) : PremC w 191 [.int n tn, .bytes b tb] 2 16 news (fun r l => (∃ b' t, r = .bytes b' t ∧ KBw.bInts b' = (putHalf (List.replicate 16 0) 0 n).take 2 ++ ks ++ (putHalf (List.replicate 16 0) 0 n).drop (2 + ks.length)) ∧ l = news) yy := by
  k_dflt (refine' premC_of ?k6 ?hb ?_; (case k6 => (with_unfolding_all rfl)); (case hb => (with_unfolding_all rfl)); k_whole)
  k_fill
  intro B F X N T hd hu
  (try dsimp only)
  k_steps
  walk_at "nz out"
  case P => (rename KBw.bInts _ = List.take _ _ ++ _ ++ _ => q); exact ⟨⟨_, _, rfl, q⟩, rfl⟩
  case N => walk_at "nz news"
open RowH in
theorem RowH.fin (hb : KBw.bInts b = ks) (h0 : 0 ≤ n) (h1 : n < 65536) (h2 : ks.length ≤ 14) : CtrC w 191 [.int n tn, .bytes b tb] 2 16 news (fun r l => (∃ b' t, r = .bytes b' t ∧ KBw.bInts b' = (putHalf (List.replicate 16 0) 0 n).take 2 ++ ks ++ (putHalf (List.replicate 16 0) 0 n).drop (2 + ks.length)) ∧ l = news) := by
  have h : ∀ y, PremC w 191 [.int n tn, .bytes b tb] 2 16 news (fun r l => (∃ b' t, r = .bytes b' t ∧ KBw.bInts b' = (putHalf (List.replicate 16 0) 0 n).take 2 ++ ks ++ (putHalf (List.replicate 16 0) 0 n).drop (2 + ks.length)) ∧ l = news) y := henk (RowH.main hb h0 h1 h2)
  walk_at "nz enterC"
  intro mean mg mb dp un gd env outer base g L s B F X N T hd hu
  (with_unfolding_all refine' h ⟨mean, mg, mb, dp, un, gd, env, outer, base, g, L, s⟩ _ _ _ _ _ _ _ _ _ _ _ _ _ _ _ ?k6 ?zB ?zF ?zX ?zN ?zT ?zhd ?zhu)
  (case k6 => with_unfolding_all rfl)
  (case zB => with_unfolding_all exact B)
  (case zF => with_unfolding_all exact F)
  (case zX => with_unfolding_all exact X)
  (case zN => with_unfolding_all exact N)
  (case zT => with_unfolding_all exact T)
  (case zhd => with_unfolding_all exact hd)
  (case zhu => with_unfolding_all exact hu)
theorem c_row_for (w : World) (b : Array UInt8) (ks : List Int) (n : Int) (tn : Tok) (tb : Tok) (news : Led) (hb : KBw.bInts b = ks) (h0 : 0 ≤ n) (h1 : n < 65536) (h2 : ks.length ≤ 14) : CtrC w 191 [.int n tn, .bytes b tb] 2 16 news (fun r l => (∃ b' t, r = .bytes b' t ∧ KBw.bInts b' = (putHalf (List.replicate 16 0) 0 n).take 2 ++ ks ++ (putHalf (List.replicate 16 0) 0 n).drop (2 + ks.length)) ∧ l = news) := by
  refine henk (P := fun y => RowH.SS y.1 y.2.1 y.2.2.1 y.2.2.2.1 y.2.2.2.2.1 y.2.2.2.2.2.1 y.2.2.2.2.2.2) ?_ (w, b, ks, n, tn, tb, news) hb h0 h1 h2
  intro hb h0 h1 h2
  with_unfolding_all exact RowH.fin hb h0 h1 h2
end
section
theorem off_NzL : True := by
  w_top off
  trivial
open PySem PySem.W PySem.Calls PyProof.Rows PySem.Builtin
/-- a for stands before its source's iterator -/
def IterC (M : Model) (A : Around) (env : Env) (target : Expr) (body : List Stmt) (Q : Flow → Shared → Prop) (E : Value → Shared → Prop) (x : Value) (s : Shared) : Prop :=
  wpAny M A (pyIter x) (fun it s₂ => codeC M A (.forLoop target it body [] env) (fun r s' => match r with | .ok f => Q f s' | .error e => False) s₂) E s
theorem wpC_For' {M : Model} {A : Around} {E : Value → Shared → Prop} {s : Shared} {env : Env} {target iter : Expr} {body : List Stmt} {pos : Pos} {Q : Flow → Shared → Prop}
    (h : wpC M A (eval iter env) (IterC M A env target body Q E) E s) (hs : ∀ x, foldedSetIterable iter env x = pure x := by intro _; rfl) :
    wpC M A (exec (.For target iter body [] pos) env) Q E s := wpC_For h hs
/-- what a turn must leave -/
def TurnQ {σ : Type} (g : Heap) (L : Addr) (x : Str) (base : σ → Str → Option Value) (ld : σ → Led) (P : σ → Prop) (I : Addr) (o : Obj) (s₀ : Shared) (Q : Flow → Shared → Prop) (fl : Flow) (s' : Shared) : Prop :=
  match fl with
  | .ret v => Q (.ret v) s'
  | .brk => Q .next s'
  | _ => ∃ σ' m', Fr g L s'.heap m' ∧ (∀ y, y ≠ x → m' y = base σ' y) ∧ News g L s'.heap ((I, o) :: ld σ') ∧ (∀ p ∈ ld σ', p.1 ≠ I) ∧ P σ' ∧ Same s₀ s'
theorem turnQ_of {σ : Type} {g : Heap} {L : Addr} {x : Str} {base : σ → Str → Option Value} {ld : σ → Led} {P : σ → Prop} {I : Addr} {o : Obj} {s₀ : Shared} {Q : Flow → Shared → Prop} {s' : Shared} (c : σ) {m' : Str → Option Value}
    (F : Fr g L s'.heap m') (B : ∀ y, y ≠ x → m' y = base c y) (N : News g L s'.heap ((I, o) :: ld c)) (off : ∀ p ∈ ld c, p.1 ≠ I) (hP : P c) (S : Same s₀ s') : TurnQ g L x base ld P I o s₀ Q .next s' := ⟨c, m', F, B, N, off, hP, S⟩
section
variable {prog : Program} {w : World} {A : Around} {E : Value → Shared → Prop} {s : Shared} {σ : Type} {name : Str} {scope : Scope} {L a : Addr} {cd : Value} {g : Heap} {m₀ : Str → Option Value} {x : Str} {pos : Pos} {body : List Stmt} {Q : Flow → Shared → Prop}
theorem forC_any (I : Addr) (n : Nat) (itAt : Nat → Obj → Prop) (item : Nat → Value → Prop) (base : σ → Str → Option Value) (ld : σ → Led) (P : Nat → σ → Prop) (c₀ : σ) (o₀ : Obj)
    (hk : scope.kind = .function) (hl : (envOf name scope L a cd).kindOf x = some .local) (h0 : P 0 c₀) (hm : ∀ y, y ≠ x → m₀ y = base c₀ y) (hit : itAt 0 o₀) (hoff : ∀ p ∈ ld c₀, p.1 ≠ I)
    (F : Fr g L s.heap m₀) (N : News g L s.heap ((I, o₀) :: ld c₀))
    (next : ∀ i s o c (P' : Option Value → Shared → Prop) (E : Value → Shared → Prop), i < n → s.heap.get? I = some o → itAt i o → P i c → News g L s.heap (ld c) →
      (∀ v h' o' tk, item i v → h'.get? I = some o' → itAt (i + 1) o' → Heap.SameBut I s.heap h' → P' (some v) { s with heap := h', toks := tk }) → wpAny (model prog w) A (pyNext (.ref I)) P' E s)
    (last : ∀ s o c (P' : Option Value → Shared → Prop) (E : Value → Shared → Prop), s.heap.get? I = some o → itAt n o → P n c → News g L s.heap (ld c) →
      (∀ h', Heap.ExtBut I s.heap h' → P' none { s with heap := h' }) → wpAny (model prog w) A (pyNext (.ref I)) P' E s)
    (turn : ∀ i v c o s', i < n → item i v → P i c → (∀ p ∈ ld c, p.1 ≠ I) → Fr g L s'.heap (fun y => if y = x then some v else base c y) → News g L s'.heap ((I, o) :: ld c) → Same s s' →
      wpC (model prog w) A (execs body (envOf name scope L a cd)) (TurnQ g L x base ld (P (i + 1)) I o s Q) (fun _ _ => False) s')
    (done : ∀ v c s', P n c → Fr g L s'.heap (fun y => if y = x then v else base c y) → News g L s'.heap (ld c) → Same s s' → Q .next s') :
    codeC (model prog w) A (.forLoop (.Name x pos) (.ref I) body [] (envOf name scope L a cd)) (fun r s' => match r with | .ok f => Q f s' | .error e => False) s := by
  have norm : ∀ (m : Str → Option Value) (c : σ) (v : Option Value), (∀ y, y ≠ x → m y = base c y) → (fun y => if y = x then v else m y) = fun y => if y = x then v else base c y := fun m c v h => by
    funext y
    by_cases hy : y = x
    · simp only [if_pos hy]
    · simp only [if_neg hy]; exact h y hy
  refine forC_core (s₀ := s) (w := w) (prog := prog) (pos := pos) (Q := Q) n itAt item (fun i m led => ∃ c, (∀ y, y ≠ x → m y = base c y) ∧ led = ld c ∧ P i c) rfl ?_ ?_ ?_ ?_ ?_ n 0 m₀ (ld c₀) o₀ s rfl (Nat.zero_le _) ⟨c₀, hm, rfl, h0⟩ hit hoff F N Same.refl
  · intro m s v F led N P' E' h
    exact stN F N (fun h' F' N' => h h' _ F' N') hk hl
  · rintro i s o m led P' E' hi ho hio ⟨c, h1, rfl, h2⟩ N h
    exact next i s o c P' E' hi ho hio h2 N h
  · rintro s o m led P' E' ho hio ⟨c, h1, rfl, h2⟩ N h
    exact last s o c P' E' ho hio h2 N h
  · rintro i v m led o s' hi hv ⟨c, h1, rfl, h2⟩ hoff F N hS
    refine wpC_mono (turn i v c o s' hi hv h2 hoff (norm m c _ h1 ▸ F) N hS) (fun fl s'' q => ?_) fun _ _ e => e
    cases fl with
    | ret v => exact q
    | brk => exact q
    | next => obtain ⟨c', m', q1, q2, q3, q4, q5, q6⟩ := q; exact ⟨m', ld c', q1, q3, q4, ⟨c', q2, rfl, q5⟩, q6⟩
    | cont => obtain ⟨c', m', q1, q2, q3, q4, q5, q6⟩ := q; exact ⟨m', ld c', q1, q3, q4, ⟨c', q2, rfl, q5⟩, q6⟩
  · rintro m led s' ⟨c, h1, rfl, h2⟩ F N hS
    refine done (m x) c s' h2 ?_ N hS
    have e : m = fun y => if y = x then m x else base c y := by
      funext y
      by_cases hy : y = x
      · rw [if_pos hy, hy]
      · rw [if_neg hy]; exact h1 y hy
    exact e ▸ F
theorem ext_onto {led : Led} {o : Obj} {h : Heap} (F : Fr g L h m₀) (N : News g L h led) : Fr g L (h.push o) m₀ ∧ (News g L (h.push o) ((h.objs.size, o) :: led) ∨ o.isFreed = true) ∧ ∀ p ∈ led, p.1 ≠ h.objs.size := by
  refine ⟨F.push o, ?_, fun p hp => Nat.ne_of_lt (Heap.lt_size (N p hp).1)⟩
  cases hf : o.isFreed with
  | true => exact .inr rfl
  | false =>
    refine .inl fun p hp => ?_
    rcases List.mem_cons.mp hp with rfl | hp
    · refine ⟨Heap.get?_push_size _ hf, fun e => ?_, ?_⟩
      · obtain ⟨oL, es, ep, hL, r⟩ := F.ns
        exact absurd (show h.objs.size = L from e) (Nat.ne_of_gt (Heap.lt_size hL))
      · cases q : g.get? h.objs.size with
        | none => rfl
        | some o => exact absurd (Heap.lt_size (F.keep _ _ q)) (Nat.lt_irrefl _)
    · exact ⟨Heap.get?_push_of_some _ (N p hp).1, (N p hp).2⟩
theorem ext_onto' {led : Led} {o : Obj} {h : Heap} (F : Fr g L h m₀) (N : News g L h led) (hf : o.isFreed = false) : Fr g L (h.push o) m₀ ∧ News g L (h.push o) ((h.objs.size, o) :: led) ∧ ∀ p ∈ led, p.1 ≠ h.objs.size :=
  let ⟨a, b, c⟩ := ext_onto (o := o) F N
  ⟨a, b.elim id (fun e => by rw [hf] at e; cases e), c⟩
/-- over bytes -/
theorem forC_bytes {b : Array UInt8} {ks : List Int} {tb : Tok} {led₀ : Led} (base : σ → Str → Option Value) (ld : σ → Led) (P : Nat → σ → Prop) (c₀ : σ) (hb : KBw.bInts b = ks) (hh : A.handled = none)
    (F : Fr g L s.heap m₀) (N : News g L s.heap led₀) (hs : ∀ p ∈ ld c₀, p ∈ led₀) (h0 : P 0 c₀) (hm : ∀ y, y ≠ x → m₀ y = base c₀ y)
    (turn : ∀ i (k : Int) tk c I o s', ks[i]? = some k → 0 ≤ k → k < 256 → P i c → (∀ p ∈ ld c, p.1 ≠ I) → Fr g L s'.heap (fun y => if y = x then some (.int k tk) else base c y) → News g L s'.heap ((I, o) :: ld c) → Same s s' →
      wpC (model prog w) A (execs body (envOf name scope L a cd)) (TurnQ g L x base ld (P (i + 1)) I o s Q) (fun _ _ => False) s')
    (done : ∀ v c s', P ks.length c → Fr g L s'.heap (fun y => if y = x then v else base c y) → News g L s'.heap (ld c) → Same s s' → Q .next s')
    (hk : scope.kind = .function := by rfl) (hl : (envOf name scope L a cd).kindOf x = some .local := by rfl) :
    IterC (model prog w) A (envOf name scope L a cd) (.Name x pos) body Q E (.bytes b tb) s := by
  have hz : b.size = ks.length := by rw [← hb, KBw.ints_length]
  refine KBw.pyIter_bytes ?_
  obtain ⟨F', N', off⟩ := ext_onto' (o := { cls := .type "bytes_iterator", data := .fields #[.bytes b tb, .int 0 0] }) F (fun p hp => N p (hs p hp)) rfl
  refine forC_any (s := { s with heap := s.heap.push _ }) s.heap.objs.size ks.length (fun i o => o.cls = .type "bytes_iterator" ∧ o.data = .fields #[.bytes b tb, .int i 0]) (fun i v => ∃ k t, ks[i]? = some k ∧ 0 ≤ k ∧ k < 256 ∧ v = .int k t) base ld P c₀ _ hk hl h0 hm ⟨rfl, rfl⟩ off F' N' ?_ ?_ ?_ ?_
  · rintro i s₁ o c P' E' hi ho ⟨hc, hd⟩ hP N₁ h
    have hx : b[i]? = some b[i] := Array.getElem?_eq_getElem (by omega)
    refine KBw.next_item (i := i) ⟨o, ho, hc, hd⟩ hx fun h' hit' hsb => ?_
    obtain ⟨o', ho', hc', hd'⟩ := hit'
    refine h _ h' o' _ ⟨_, _, ?_, ?_, ?_, rfl⟩ ho' ⟨hc', hd'⟩ hsb
    · have q := KBw.ints_get hx; rwa [hb] at q
    · omega
    · have := b[i].toNat_lt; omega
  · rintro s₁ o c P' E' ho ⟨hc, hd⟩ hP N₁ h
    exact KBw.next_end hh ⟨o, ho, hc, hd⟩ (by simp; omega) h
  · rintro i v c o s' hi ⟨k, t, hx, k0, k1, rfl⟩ hP hoff F₁ N₁ hS
    exact wpC_mono (turn i k t c _ o s' hx k0 k1 hP hoff F₁ N₁ hS) (fun fl s'' q => by cases fl <;> exact q) fun _ _ e => e
  · intro v c s' hP F₁ N₁ hS
    exact done v c s' hP F₁ N₁ hS
/-- over a range by ones -/
theorem forC_range {r : Addr} {n : Nat} {t u v : Tok} {led₀ : Led} (base : σ → Str → Option Value) (ld : σ → Led) (P : Nat → σ → Prop) (c₀ : σ) (hr : IsRange s.heap r 0 n 1 t u v) (hn : n ≤ 1000000) (hh : A.handled = none)
    (F : Fr g L s.heap m₀) (N : News g L s.heap led₀) (hs : ∀ p ∈ ld c₀, p ∈ led₀) (h0 : P 0 c₀) (hm : ∀ y, y ≠ x → m₀ y = base c₀ y)
    (turn : ∀ i tk c I o s', i < n → P i c → (∀ p ∈ ld c, p.1 ≠ I) → Fr g L s'.heap (fun y => if y = x then some (.int (i : Int) tk) else base c y) → News g L s'.heap ((I, o) :: ld c) → Same s s' →
      wpC (model prog w) A (execs body (envOf name scope L a cd)) (TurnQ g L x base ld (P (i + 1)) I o s Q) (fun _ _ => False) s')
    (done : ∀ v c s', P n c → Fr g L s'.heap (fun y => if y = x then v else base c y) → News g L s'.heap (ld c) → Same s s' → Q .next s')
    (hk : scope.kind = .function := by rfl) (hl : (envOf name scope L a cd).kindOf x = some .local := by rfl) :
    IterC (model prog w) A (envOf name scope L a cd) (.Name x pos) body Q E (.ref r) s := by
  have hsz : Builtin.Range.rangeSize 0 (n : Int) 1 = n := by
    rw [rangeSize_one]; split <;> omega
  refine wpAny_pyIter_range hr (small_one (by decide) (by decide) (by omega) (by omega)) ?_
  rw [hsz]
  obtain ⟨F', N', off⟩ := ext_onto' (o := { cls := .type "range_iterator", data := .fields #[rawInt 0, rawInt n, rawInt 1] }) F (fun p hp => N p (hs p hp)) rfl
  refine forC_any (s := { s with heap := s.heap.push _ }) s.heap.objs.size n (fun i o => o = { cls := .type "range_iterator", data := .fields #[rawInt i, rawInt ((n : Int) - i), rawInt 1] }) (fun i v => ∃ t, v = .int (i : Int) t) base ld P c₀ _ hk hl h0 hm (by simp) off F' N' ?_ ?_ ?_ ?_
  · rintro i s₁ o c P' E' hi ho rfl hP N₁ h
    refine wpAny_pyNext_range_item ho (by omega) fun h' hit' hsb => h _ h' _ _ ⟨_, rfl⟩ hit' ?_ hsb
    rw [show ((i + 1 : Nat) : Int) = (i : Int) + 1 by omega, show (n : Int) - ((i : Int) + 1) = (n : Int) - i - 1 by omega]
  · rintro s₁ o c P' E' ho rfl hP N₁ h
    exact wpAny_pyNext_range_end hh ho (by omega) h
  · rintro i v c o s' hi ⟨t, rfl⟩ hP hoff F₁ N₁ hS
    exact wpC_mono (turn i t c _ o s' hi hP hoff F₁ N₁ hS) (fun fl s'' q => by cases fl <;> exact q) fun _ _ e => e
  · intro v c s' hP F₁ N₁ hS
    exact done v c s' hP F₁ N₁ hS
/-- over a list that stands in the ledger -/
theorem forC_list {l : Addr} {vs : Array Value} {nl : Nat} {led₀ : Led} (base : σ → Str → Option Value) (ld : σ → Led) (P : Nat → σ → Prop) (c₀ : σ) (hin : ∀ c, (l, listOf vs nl) ∈ ld c) (hh : A.handled = none)
    (F : Fr g L s.heap m₀) (N : News g L s.heap led₀) (hs : ∀ p ∈ ld c₀, p ∈ led₀) (h0 : P 0 c₀) (hm : ∀ y, y ≠ x → m₀ y = base c₀ y)
    (turn : ∀ i v c I o s', vs[i]? = some v → P i c → (∀ p ∈ ld c, p.1 ≠ I) → Fr g L s'.heap (fun y => if y = x then some v else base c y) → News g L s'.heap ((I, o) :: ld c) → Same s s' →
      wpC (model prog w) A (execs body (envOf name scope L a cd)) (TurnQ g L x base ld (P (i + 1)) I o s Q) (fun _ _ => False) s')
    (done : ∀ v c s', P vs.size c → Fr g L s'.heap (fun y => if y = x then v else base c y) → News g L s'.heap (ld c) → Same s s' → Q .next s')
    (hk : scope.kind = .function := by rfl) (hl : (envOf name scope L a cd).kindOf x = some .local := by rfl) :
    IterC (model prog w) A (envOf name scope L a cd) (.Name x pos) body Q E (.ref l) s := by
  have isl : ∀ {h : Heap} {c}, News g L h (ld c) → h.IsList l vs := fun N => ⟨_, (N _ (hin _)).1, rfl, nl, rfl⟩
  refine wpAny_pyIter_list (isl fun p hp => N p (hs p hp)) ?_
  obtain ⟨F', N', off⟩ := ext_onto' (o := { cls := .type "list_iterator", data := .fields #[.ref l, .int 0 0] }) F (fun p hp => N p (hs p hp)) rfl
  refine forC_any (s := { s with heap := s.heap.push _ }) s.heap.objs.size vs.size (fun i o => o.cls = .type "list_iterator" ∧ o.data = .fields #[.ref l, .int i 0]) (fun i v => vs[i]? = some v) base ld P c₀ _ hk hl h0 hm ⟨rfl, rfl⟩ off F' N' ?_ ?_ ?_ ?_
  · rintro i s₁ o c P' E' hi ho ⟨hc, hd⟩ hP N₁ h
    refine wpAny_pyNext_list_item (i := i) (x := vs[i]) ⟨o, ho, hc, hd⟩ (isl N₁) (by simp [hi]) fun h' hit' hsb => ?_
    obtain ⟨o', ho', hc', hd'⟩ := hit'
    exact h _ h' o' s₁.toks (by simp [hi]) ho' ⟨hc', hd'⟩ hsb
  · rintro s₁ o c P' E' ho ⟨hc, hd⟩ hP N₁ h
    exact wpAny_pyNext_list_end hh ⟨o, ho, hc, hd⟩ (isl N₁) (by simp) h
  · rintro i v c o s' hi hv hP hoff F₁ N₁ hS
    exact wpC_mono (turn i v c _ o s' hv hP hoff F₁ N₁ hS) (fun fl s'' q => by cases fl <;> exact q) fun _ _ e => e
  · intro v c s' hP F₁ N₁ hS
    exact done v c s' hP F₁ N₁ hS
end
theorem off_upd {led : Led} {a I : Addr} {o o' : Obj} (h : ∀ p ∈ (a, o) :: led, p.1 ≠ I) : ∀ p ∈ (a, o') :: led, p.1 ≠ I := fun p hp => by
  rcases List.mem_cons.mp hp with rfl | hp
  · exact h (a, o) (.head _)
  · exact h p (.tail _ hp)
theorem take_next {α : Type} {l : List α} {i : Nat} {k : α} (h : l[i]? = some k) : l.take (i + 1) = l.take i ++ [k] := by
  rw [List.take_add_one, h]; rfl
theorem tw_at {cs : List Int} {i : Nat} (hx : cs[i]? = some 0) (hz : ∀ k ∈ cs.take i, k ≠ 0) : cs.takeWhile (fun k => decide (k ≠ 0)) = cs.take i := by
  induction cs generalizing i with
  | nil => simp
  | cons a r ih =>
    cases i with
    | zero =>
      have : a = 0 := by simpa using hx
      subst this
      simp
    | succ i =>
      have ha : a ≠ 0 := hz a (by simp)
      rw [List.takeWhile_cons_of_pos (by simpa using ha), List.take_succ_cons, ih (by simpa using hx) fun k hk => hz k (by simp [hk])]
theorem tw_all {cs : List Int} (hz : ∀ k ∈ cs.take cs.length, k ≠ 0) : cs.takeWhile (fun k => decide (k ≠ 0)) = cs := by
  rw [List.take_length] at hz
  induction cs with
  | nil => rfl
  | cons a r ih => rw [List.takeWhile_cons_of_pos (by simpa using hz a (.head _)), ih fun k hk => hz k (.tail _ hk)]
end
section
local macro_rules | `(tactic| walk_at $s:str) => `(tactic| k_extra $(Lean.Syntax.mkStrLit ("28 " ++ s.getString)))
local macro_rules | `(tactic| walk_at "nz pad") => `(tactic| skip)
theorem off_NzM : True := by
  w_top off
  trivial
open PySem PySem.W PySem.Calls PyProof.Rows
theorem kw0_NzM : True := by
  k_with "28 nz pq" => k_extra "L0"
  k_with "28 nz pn" => k_extra "L1"
  k_with "28 nz pi" => k_extra "L2"
  k_with "28 nz pr" => k_extra "L3"
  k_with "28 nz oo" => k_extra "L4"
  k_with "28 nz zz" => k_extra "L5"
  k_with "28 nz om" => k_extra "L6"
  k_with "28 nz enter" => k_extra "L7"
  k_with "28 nz intro" => k_extra "L8"
  k_with "28 nz go" => k_extra "L9"
  k_with "28 nz end" => k_extra "L10"
  k_with "28 subscriptTail" => k_extra "L11"
  k_with "28 setItem ref int" => k_extra "L12"
  k_with "28 nz side" => k_extra "L13"
  k_with "28 nz pick" => k_extra "L14"
  k_with "28 nz sub" => k_extra "L15"
  k_with "28 nz news" => k_extra "L16"
  k_with "28 nz same" => k_extra "L17"
  k_with "28 nz out" => k_extra "L18"
  k_with "28 nz len" => k_extra "L19"
  k_with "28 getMethod str" => k_extra "L30"
  k_with "28 call builtin:str.encode" => k_extra "L31"
  k_with "28 call type:bytes" => k_extra "L32"
  k_with "28 call type:bytes" => k_extra "L33"
  k_with "28 call type:bytes" => k_extra "L34"
  k_with "28 call builtin:isinstance" => k_extra "L35"
  k_with "28 nz size" => k_extra "L36"
  k_with "28 nz enterC" => k_extra "L40"
  k_with "28 nz introC" => k_extra "L41"
  k_with "28 nz goC" => k_extra "L42"
  k_with "28 nz steps" => k_extra "L43"
  k_with "28 last wpC" => k_extra "L44"
  k_with "28 wpC" => k_extra "L45"
  k_with "28 wpC" => k_extra "L46"
  k_with "28 wpC" => k_extra "L47"
  k_with "28 wpC" => k_extra "L48"
  k_with "28 wpC" => k_extra "L49"
  k_with "28 wpC" => k_extra "L50"
  k_with "28 wpC" => k_extra "L51"
  k_with "28 wpC" => k_extra "L52"
  k_with "28 wpC" => k_extra "L53"
  k_with "28 wpC" => k_extra "L54"
  k_with "28 wpC" => k_extra "L55"
  k_with "28 wpC" => k_extra "L56"
  k_with "28 wpC" => k_extra "L57"
  k_with "28 wpC" => k_extra "L58"
  k_with "28 wpC" => k_extra "L59"
  k_with "28 wpC" => k_extra "L60"
  k_with "28 wpC" => k_extra "L61"
  k_with "28 getMethod ref" => k_extra "L62"
  k_with "28 wpC" => k_extra "L63"
  k_with "28 nz turn" => k_extra "L64"
  trivial
namespace NiH
def SS (w : World) (b : Array UInt8) (ks : List Int) (tb : Tok) (news : Led) : Prop := KBw.bInts b = ks → ks.length = 16 → CtrC w 198 [.bytes b tb] 2 16 news (fun r l => (∃ b' t, r = .bytes b' t ∧ KBw.bInts b' = (ks.drop 2).takeWhile (fun k => decide (k ≠ 0))) ∧ l = news)
noncomputable def kk : World × (Array UInt8) × (List Int) × Tok × Led := Classical.epsilon fun y => ¬ SS y.1 y.2.1 y.2.2.1 y.2.2.2.1 y.2.2.2.2
@[irreducible] noncomputable def w : World := kk.1
@[irreducible] noncomputable def b : Array UInt8 := kk.2.1
@[irreducible] noncomputable def ks : List Int := kk.2.2.1
@[irreducible] noncomputable def tb : Tok := kk.2.2.2.1
@[irreducible] noncomputable def news : Led := kk.2.2.2.2
noncomputable def yy : Fm := Classical.epsilon fun y => ¬ PremC w 198 [.bytes b tb] 2 16 news (fun r l => (∃ b' t, r = .bytes b' t ∧ KBw.bInts b' = (ks.drop 2).takeWhile (fun k => decide (k ≠ 0))) ∧ l = news) y
end NiH
open NiH in
theorem NiH.main (hb : KBw.bInts b = ks) (h1 : ks.length = 16) : PremC w 198 [.bytes b tb] 2 16 news (fun r l => (∃ b' t, r = .bytes b' t ∧ KBw.bInts b' = (ks.drop 2).takeWhile (fun k => decide (k ≠ 0))) ∧ l = news) yy := by
  k_dflt (refine' premC_of ?k6 ?hb ?_; (case k6 => (with_unfolding_all rfl)); (case hb => (with_unfolding_all rfl)); k_whole)
  k_fill
  intro B F X N T hd hu
  (try dsimp only)
  k_steps
  (rename KBw.bInts (KBy.picked _ _ _) = _ => q)
  have q' : KBw.bInts (KBy.picked b (some 2) (some 16)) = ks.drop 2 := by
    rw [q, show clipAt ks.length 16 = 16 by rw [h1]; decide +kernel, show clipAt ks.length 2 = 2 by rw [h1]; decide +kernel]
    exact List.take_of_length_le (by simp [h1])
  k_dflt (refine' forC_bytes (σ := Array UInt8) (fun _ => _) (fun b' => (_, baObj b') :: _) (fun i b' => KBw.bInts b' = (ks.drop 2).take i ∧ ∀ k ∈ (ks.drop 2).take i, k ≠ 0) #[] q' rfl ?F ?N (fun _ h => h) ?h0 (fun _ _ => rfl) ?turn ?done; (case F => k_asm); (case N => k_asm))
  case h0 => exact ⟨rfl, fun k hk => nomatch hk⟩
  case turn =>
    intro i k tk c I o s' hx k0 k1 hP off F1 N1 hS
    obtain ⟨hc, hz⟩ := hP
    have offa := neN (off _ (.head _))
    have hlen : ((ks.drop 2).take i).length ≤ 16 := by simp; omega
    k_steps
    · unfold TurnQ
      dsimp only
      k_steps
      walk_at "nz out"
      case P => subst_vars; exact ⟨⟨_, _, rfl, hc.trans (tw_at hx hz).symm⟩, rfl⟩
      case N => walk_at "nz news"
    · walk_at "nz turn"
      case N => k_asm
      case B => exact fun y hy => by simp only [if_neg hy]
      case off => exact off_upd off
      case hP =>
        (rename KBw.bInts _ = _ ++ [_] => q3)
        rw [take_next hx]
        refine ⟨q3, fun j hj => ?_⟩
        rcases List.mem_append.mp hj with hj | hj
        · exact hz j hj
        · rw [List.mem_singleton.mp hj]; assumption
  case done =>
    intro v c s' hP F1 N1 hS
    obtain ⟨hc, hz⟩ := hP
    k_steps
    walk_at "nz out"
    case P => exact ⟨⟨_, _, rfl, by rw [hc, tw_all hz, List.take_length]⟩, rfl⟩
    case N => walk_at "nz news"
open NiH in
theorem NiH.fin (hb : KBw.bInts b = ks) (h1 : ks.length = 16) : CtrC w 198 [.bytes b tb] 2 16 news (fun r l => (∃ b' t, r = .bytes b' t ∧ KBw.bInts b' = (ks.drop 2).takeWhile (fun k => decide (k ≠ 0))) ∧ l = news) := by
  have h : ∀ y, PremC w 198 [.bytes b tb] 2 16 news (fun r l => (∃ b' t, r = .bytes b' t ∧ KBw.bInts b' = (ks.drop 2).takeWhile (fun k => decide (k ≠ 0))) ∧ l = news) y := henk (NiH.main hb h1)
  walk_at "nz enterC"
  intro mean mg mb dp un gd env outer base g L s B F X N T hd hu
  (with_unfolding_all refine' h ⟨mean, mg, mb, dp, un, gd, env, outer, base, g, L, s⟩ _ _ _ _ _ _ _ _ _ _ _ _ _ _ _ ?k6 ?zB ?zF ?zX ?zN ?zT ?zhd ?zhu)
  (case k6 => with_unfolding_all rfl)
  (case zB => with_unfolding_all exact B)
  (case zF => with_unfolding_all exact F)
  (case zX => with_unfolding_all exact X)
  (case zN => with_unfolding_all exact N)
  (case zT => with_unfolding_all exact T)
  (case zhd => with_unfolding_all exact hd)
  (case zhu => with_unfolding_all exact hu)
theorem c_name_in (w : World) (b : Array UInt8) (ks : List Int) (tb : Tok) (news : Led) (hb : KBw.bInts b = ks) (h1 : ks.length = 16) : CtrC w 198 [.bytes b tb] 2 16 news (fun r l => (∃ b' t, r = .bytes b' t ∧ KBw.bInts b' = (ks.drop 2).takeWhile (fun k => decide (k ≠ 0))) ∧ l = news) := by
  refine henk (P := fun y => NiH.SS y.1 y.2.1 y.2.2.1 y.2.2.2.1 y.2.2.2.2) ?_ (w, b, ks, tb, news) hb h1
  intro hb h1
  with_unfolding_all exact NiH.fin hb h1
end
section
theorem off_NzN : True := by
  w_top off
  trivial
open PySem PySem.W PySem.Calls PyProof.Rows PySem.Builtin
/-- bytes values that hold these octets -/
inductive BytesAre : List Value → List (List Int) → Prop
  | nil : BytesAre [] []
  | cons (b : Array UInt8) (t : Tok) {ns : List Int} {vs nss} : KBw.bInts b = ns → BytesAre vs nss → BytesAre (.bytes b t :: vs) (ns :: nss)
theorem BytesAre.append {vs ws : List Value} {ns ms : List (List Int)} (h : BytesAre vs ns) (k : BytesAre ws ms) : BytesAre (vs ++ ws) (ns ++ ms) := by
  induction h with
  | nil => exact k
  | cons b t hb _ ih => exact .cons b t hb ih
theorem BytesAre.snoc {vs : List Value} {ns : List (List Int)} {b : Array UInt8} {t : Tok} {ks : List Int} (h : BytesAre vs ns) (hb : KBw.bInts b = ks) : BytesAre (vs ++ [.bytes b t]) (ns ++ [ks]) := h.append (.cons b t hb .nil)
theorem BytesAre.length {vs : List Value} {ns : List (List Int)} (h : BytesAre vs ns) : vs.length = ns.length := by
  induction h with
  | nil => rfl
  | cons _ _ _ _ ih => simp [ih]
/-- one octet of a path -/
def pstep (c : List (List Int) × List Int) (k : Int) : List (List Int) × List Int :=
  if k ≠ 47 then (c.1, c.2 ++ [k]) else if c.2.length > 0 then (c.1 ++ [c.2.take 14], []) else c
def pst (ks : List Int) (i : Nat) : List (List Int) × List Int := ((ks ++ [47]).take i).foldl pstep ([], [])
/-- the names of a path -/
def names (ks : List Int) : List (List Int) := (pst ks (ks.length + 1)).1
theorem pst_zero (ks : List Int) : pst ks 0 = ([], []) := rfl
theorem pst_next {ks : List Int} {i : Nat} {k : Int} (h : (ks ++ [47])[i]? = some k) : pst ks (i + 1) = pstep (pst ks i) k := by
  unfold pst
  rw [take_next h, List.foldl_append]; rfl
theorem pst_small (ks : List Int) : ∀ i, (pst ks i).1.length ≤ i ∧ (pst ks i).2.length ≤ i := by
  intro i
  induction i with
  | zero => exact ⟨Nat.le_refl _, Nat.le_refl _⟩
  | succ i ih =>
    cases hx : (ks ++ [47])[i]? with
    | none =>
      have : pst ks (i + 1) = pst ks i := by
        unfold pst
        rw [List.take_add_one, hx]; simp
      rw [this]; omega
    | some k =>
      rw [pst_next hx]
      unfold pstep
      split
      · simp; omega
      · split
        · simp; omega
        · omega
def neN8 (a b : Nat) : Prop := a ≠ b
/-- octets_of of v gives b -/
def OctOf (w : World) (v : Value) (b : Array UInt8) : Prop := ∀ led, Ctr w 170 [v] 1 8 led (fun r l => (∃ t, r = .bytes b t) ∧ l = led) NoE
theorem OctOf.ctr {w : World} {v : Value} {b : Array UInt8} (h : OctOf w v b) (led : Led) : Ctr w 170 [v] 1 8 led (fun r l => (∃ t, r = .bytes b t) ∧ l = led) NoE := h led
section
variable {M : Model} {A : Around} {E : Value → Shared → Prop} {s : Shared} {env : Env}
theorem wpC_Tuple {elts : List Expr} {k : Nat} {pos : Pos} {Q : Value → Shared → Prop}
    (h : wpC M A (spliced (backTo pos (starEach elts env))) (fun vs s₁ => wpAny M A (newTuple vs) Q E s₁) E s) : wpC M A (eval (.Tuple elts k pos) env) Q E s := by
  show wpC M A (do standAt pos; newTuple (← spliced (backTo pos (starEach elts env)))) Q E s
  exact wpC_standAt (wpC_bind (wpC_mono h (fun vs s₁ h₁ => wpC_any h₁) fun _ _ x => x))
theorem wpC_Assign_Tuple_swapped {elts k tpos value pos} {names : List Str} {Q : Flow → Shared → Prop}
    (h : wpC M A (eval value env) (fun v s₁ => wpAny M A (unpackItems v names.length none) (fun items s₂ =>
      wpAny M A (assignInOrder (names.reverse.map fun n => bindName env n) items.reverse) (fun _ => Q .next) E s₂) E s₁) E s)
    (hs : swapsWithSole [.Tuple elts k tpos] value pos.line env = pure false := by rfl)
    (hw : swappedStores [.Tuple elts k tpos] value env = pure (some names) := by rfl) :
    wpC M A (exec (.Assign [.Tuple elts k tpos] value pos) env) Q E s := by
  rw [exec_Assign]
  refine wpC_standAt ?_
  rw [hs]
  refine wpC_bind (wpC_pure ?_)
  rw [if_neg (by decide)]
  refine wpC_bind (wpC_mono h (fun v s₁ h₁ => ?_) fun _ _ x => x)
  rw [hw]
  refine wpC_any (wpAny_bind (wpAny_pure ?_))
  show wpAny M A (do rule "assign.swapped-stores"; let items ← unpackItems v names.length none; assignInOrder (names.reverse.map fun n => bindName env n) items.reverse; pure .next) Q E s₁
  exact wpAny_bind (wpAny_rule (wpAny_bind (wpAny_mono h₁ (fun items s₂ h₂ => wpAny_bind (wpAny_mono h₂ (fun _ _ x => wpAny_pure x) fun _ _ x => x)) fun _ _ x => x)))
theorem wpC_Assign_Tuple {elts k tpos value pos} {Q : Flow → Shared → Prop}
    (h : wpC M A (eval value env) (fun v s₁ => wpAny M A (assign (.Tuple elts k tpos) env v) (fun _ => Q .next) E s₁) E s)
    (hs : swapsWithSole [.Tuple elts k tpos] value pos.line env = pure false := by rfl)
    (hw : swappedStores [.Tuple elts k tpos] value env = pure none := by rfl) :
    wpC M A (exec (.Assign [.Tuple elts k tpos] value pos) env) Q E s := by
  rw [exec_Assign]
  refine wpC_standAt ?_
  rw [hs]
  refine wpC_bind (wpC_pure ?_)
  rw [if_neg (by decide)]
  refine wpC_bind (wpC_mono h (fun v s₁ h₁ => ?_) fun _ _ x => x)
  rw [hw]
  refine wpC_any (wpAny_bind (wpAny_pure ?_))
  show wpAny M A (do assignAll v [assign (.Tuple elts k tpos) env]; pure .next) Q E s₁
  exact wpAny_bind (wpAny_mono h₁ (fun _ _ x => wpAny_pure x) fun _ _ x => x)
end
section
variable {w : World} {f : Addr} {vs : List Value} {d u : Nat} {news : Led} {Post : Value → Led → Prop}
theorem Ctr.mono {Post' : Value → Led → Prop} (C : Ctr w f vs d u news Post NoE) (h : ∀ r l, Post r l → Post' r l) : Ctr w f vs d u news Post' NoE :=
  fun mean mg mb dp un gd A₀ env outer base h₀ L m s Q E B F X N T hf hke hd hu hQ hE =>
    C mean mg mb dp un gd A₀ env outer base h₀ L m s Q E B F X N T hf hke hd hu (fun r l h' tk hp => hQ r l h' tk (h r l hp)) hE
/-- a contract that turns one object -/
def CtrU (w : World) (f : Addr) (vs : List Value) (d u : Nat) (a : Addr) (o : Obj) (P : Value → Obj → Prop) : Prop :=
  ∀ rest : Led, (∀ q ∈ rest, q.1 ≠ a) → Ctr w f vs d u ((a, o) :: rest) (fun r l => ∃ o', P r o' ∧ l = (a, o') :: rest) NoE
theorem CtrU.use {a : Addr} {o : Obj} {P : Value → Obj → Prop} (C : CtrU w f vs d u a o P) {mean : ExcName → Option Value} {mg mb : Str → Option Value} {dp un : Nat} {gd : Option (List Code)} {A₀ : Around} {env : Env} {outer : List Env} {base h₀ : Heap} {L : Addr} {m : Str → Option Value} {s : Shared} {Q E : Value → Shared → Prop} {led : Led} {g : Obj → Led}
    (B : Below A₀ base outer h₀) (F : Fr h₀ L s.heap m) (X : (NzH.hd.heap_39 w.params).In h₀) (N : News h₀ L s.heap led)
    (T : Top NzH.hd.view_39 (looseW NzH.hd.view_39 [Str.ofString "BoardError", Str.ofString "Super"]) mean mg mb h₀)
    (U : UpdF a o led g) (hf : env.frame = some L) (hk : env.scope.kind = .function) (hd : dp + d < recursionLimit) (hu : un + u < cLine)
    (h : ∀ r o' h' tk, P r o' → Fr h₀ L h' m → News h₀ L h' (g o') → Q r { s with heap := h', toks := tk }) :
    wpAny (model PySem.Challenge.rw_nz0212_01.row.prog w) (arK dp un gd env outer) (call (.ref f) vs) Q E s := by
  obtain ⟨pre, post, rfl, hg, u1, u2⟩ := U.split
  refine Ctr.use (C (pre ++ post) fun q hq => (List.mem_append.mp hq).elim (u1 q) (u2 q)) B F X N T (fun p hp => ?_) hf hk hd hu fun r l h' tk hP F' N' => ?_
  · rcases List.mem_cons.mp hp with rfl | hp
    · exact List.mem_append.mpr (.inr (.head _))
    · exact (List.mem_append.mp hp).elim (fun q => List.mem_append.mpr (.inl q)) fun q => List.mem_append.mpr (.inr (.tail _ q))
  · obtain ⟨o', hp, rfl⟩ := hP
    refine h r o' h' tk hp F' ?_
    rw [hg]
    intro q hq
    rcases List.mem_append.mp hq with hq | hq
    · exact N' q (.tail _ (List.mem_append.mpr (.inl hq)))
    · rcases List.mem_cons.mp hq with rfl | hq
      · exact N' _ (.head _)
      · exact N' q (.tail _ (List.mem_append.mpr (.inr hq)))
/-- a contract that reads one object -/
def CtrR (w : World) (f : Addr) (vs : List Value) (d u : Nat) (a : Addr) (o : Obj) (P : Value → Prop) : Prop :=
  ∀ rest : Led, Ctr w f vs d u ((a, o) :: rest) (fun r l => P r ∧ l = (a, o) :: rest) NoE
theorem CtrR.use {a : Addr} {o : Obj} {P : Value → Prop} (C : CtrR w f vs d u a o P) {mean : ExcName → Option Value} {mg mb : Str → Option Value} {dp un : Nat} {gd : Option (List Code)} {A₀ : Around} {env : Env} {outer : List Env} {base h₀ : Heap} {L : Addr} {m : Str → Option Value} {s : Shared} {Q E : Value → Shared → Prop} {led : Led}
    (B : Below A₀ base outer h₀) (F : Fr h₀ L s.heap m) (X : (NzH.hd.heap_39 w.params).In h₀) (N : News h₀ L s.heap led)
    (T : Top NzH.hd.view_39 (looseW NzH.hd.view_39 [Str.ofString "BoardError", Str.ofString "Super"]) mean mg mb h₀)
    (hm : (a, o) ∈ led) (hf : env.frame = some L) (hk : env.scope.kind = .function) (hd : dp + d < recursionLimit) (hu : un + u < cLine)
    (h : ∀ r h' tk, P r → Fr h₀ L h' m → News h₀ L h' led → Q r { s with heap := h', toks := tk }) :
    wpAny (model PySem.Challenge.rw_nz0212_01.row.prog w) (arK dp un gd env outer) (call (.ref f) vs) Q E s :=
  Ctr.use (C led) B F X N T (sub_cons hm sub_rfl) hf hk hd hu fun r l h' tk hP F' N' => by
    obtain ⟨hp, rfl⟩ := hP
    exact h r h' tk hp F' fun q hq => N' q (.tail _ hq)
theorem news_tail {g h : Heap} {L : Addr} {q : Addr × Obj} {l : Led} (N : News g L h (q :: l)) : News g L h l := fun p hp => N p (.tail _ hp)
theorem u_put_half {w : World} {a : Addr} {b : Array UInt8} {ks : List Int} {k v : Int} {tk tv : Tok} (hb : KBw.bInts b = ks) (h0 : 0 ≤ k) (h1 : k + 1 < ks.length) (h2 : ks.length ≤ 2000) (h3 : 0 ≤ v) (h4 : v < 4294967296) :
    CtrU w 80 [.ref a, .int k tk, .int v tv] 1 8 a (baObj b) (fun r o' => r = .none ∧ ∃ b', o' = baObj b' ∧ KBw.bInts b' = putHalf ks k.toNat v) := fun rest hr =>
  (c_put_half w a b ks k v tk tv rest hr hb h0 h1 h2 h3 h4).mono fun r l ⟨e, b', hb', el⟩ => ⟨_, ⟨e, b', rfl, hb'⟩, el⟩
theorem u_put_word {w : World} {a : Addr} {b : Array UInt8} {ks : List Int} {k v : Int} {tk tv : Tok} (hb : KBw.bInts b = ks) (h0 : 0 ≤ k) (h1 : k + 3 < ks.length) (h2 : ks.length ≤ 2000) (h3 : 0 ≤ v) (h4 : v < 4294967296) :
    CtrU w 87 [.ref a, .int k tk, .int v tv] 2 16 a (baObj b) (fun r o' => r = .none ∧ ∃ b', o' = baObj b' ∧ KBw.bInts b' = putWord ks k.toNat v) := fun rest hr =>
  (c_put_word w a b ks k v tk tv rest hr hb h0 h1 h2 h3 h4).mono fun r l ⟨e, b', hb', el⟩ => ⟨_, ⟨e, b', rfl, hb'⟩, el⟩
/-- the pool: two ints, the first a rest of digits, the second how often it was empty -/
def IsPool (o : Obj) (k : Nat) : Prop := ∃ a b ta tb n, o = poolObj a b ta tb n ∧ 0 ≤ a ∧ 0 ≤ b ∧ b ≤ k
theorem u_take {w : World} {p : Addr} {o : Obj} {k : Nat} {many : Int} {tm : Tok} (hp : IsPool o k) (hk : k < 1000) (h0 : 0 < many) (h1 : many ≤ 4294967296) :
    CtrU w 212 [.ref p, .int many tm] 1 8 p o (fun r o' => (∃ dg t, r = .int dg t ∧ 0 ≤ dg ∧ dg < many) ∧ IsPool o' (k + 1)) := fun rest hr => by
  obtain ⟨a, b, ta, tb, n, rfl, ha, hb, hbk⟩ := hp
  exact (c_take w p a b ta tb n rest hr ha hb (by omega) many tm h0 h1).mono fun r l ⟨dg, t, a', b', ta', tb', e1, e2, e3, e4, e5, e6, e7, el⟩ =>
    ⟨_, ⟨⟨dg, t, e1, e2, e3⟩, a', b', ta', tb', n, rfl, e4, by omega, by omega⟩, el⟩
theorem r_half {w : World} {a : Addr} {b : Array UInt8} {ks : List Int} {k : Int} {tk : Tok} (hb : KBw.bInts b = ks) (h0 : 0 ≤ k) (h1 : k + 1 < ks.length) (h2 : ks.length ≤ 2000) :
    CtrR w 66 [.ref a, .int k tk] 1 8 a (baObj b) (fun r => (∃ t, r = .int (halfI ks k.toNat) t) ∧ 0 ≤ halfI ks k.toNat ∧ halfI ks k.toNat < 65536) := fun rest =>
  (c_half_a w a b ks k tk rest hb h0 h1 h2).mono fun r l ⟨e1, e2, e3, e4⟩ => ⟨⟨e1, e2, e3⟩, e4⟩
theorem r_word {w : World} {a : Addr} {b : Array UInt8} {ks : List Int} {k : Int} {tk : Tok} (hb : KBw.bInts b = ks) (h0 : 0 ≤ k) (h1 : k + 3 < ks.length) (h2 : ks.length ≤ 2000) :
    CtrR w 73 [.ref a, .int k tk] 2 16 a (baObj b) (fun r => (∃ t, r = .int (wordI ks k.toNat) t) ∧ 0 ≤ wordI ks k.toNat ∧ wordI ks k.toNat < 4294967296) := fun rest =>
  (c_word_a w a b ks k tk rest hb h0 h1 h2).mono fun r l ⟨e1, e2, e3, e4⟩ => ⟨⟨e1, e2, e3⟩, e4⟩
theorem r_cut {w : World} {a : Addr} {b : Array UInt8} {ks : List Int} (hk : KBw.bInts b = ks) (hz : ks.length ≤ 2000) :
    CtrR w 177 [.ref a] 2 16 a (baObj b) (fun r => ∃ b' t, r = .bytes b' t ∧ KBw.bInts b' = ks.take 14) := fun rest => c_cut_a w a b ks rest hk hz
theorem r_oct {w : World} {a : Addr} {b : Array UInt8} {ks : List Int} (hk : KBw.bInts b = ks) (hz : ks.length ≤ 2000) :
    CtrR w 170 [.ref a] 1 8 a (baObj b) (fun r => ∃ t, r = .bytes b t) := fun rest => c_octets_a w a b ks rest hk hz
end
end
section
local macro_rules | `(tactic| walk_at $s:str) => `(tactic| k_extra $(Lean.Syntax.mkStrLit ("30 " ++ s.getString)))
local macro_rules | `(tactic| walk_at "nz pad") => `(tactic| skip)
local macro_rules | `(tactic| walk_at "nz pad") => `(tactic| skip)
theorem off_NzO : True := by
  w_top off
  trivial
open PySem PySem.W PySem.Calls PyProof.Rows
abbrev pBase (fa : Addr) (v : Value) (c : List Value × Nat × Addr × Array UInt8) (y : Str) : Option Value := if y = Str.ofString "found" then some (.ref fa) else if y = Str.ofString "part" then some (.ref c.2.2.1) else List.lookup y [(Str.ofString "path", v)]
abbrev pLd (fa : Addr) (news : Led) (c : List Value × Nat × Addr × Array UInt8) : Led := (c.2.2.1, baObj c.2.2.2) :: (fa, listOf c.1.toArray c.2.1) :: news
abbrev pP (fa : Addr) (news : Led) (ks : List Int) (i : Nat) (c : List Value × Nat × Addr × Array UInt8) : Prop := BytesAre c.1 (pst ks i).1 ∧ KBw.bInts c.2.2.2 = (pst ks i).2 ∧ (∀ p ∈ news, p.1 ≠ c.2.2.1) ∧ neN8 fa c.2.2.1
theorem kw0_NzO : True := by
  k_with "30 nz pq" => k_extra "L0"
  k_with "30 nz pn" => k_extra "L1"
  k_with "30 nz pi" => k_extra "L2"
  k_with "30 nz pr" => k_extra "L3"
  k_with "30 nz oo" => k_extra "L4"
  k_with "30 nz zz" => k_extra "L5"
  k_with "30 nz om" => k_extra "L6"
  k_with "30 nz enter" => k_extra "L7"
  k_with "30 nz intro" => k_extra "L8"
  k_with "30 nz go" => k_extra "L9"
  k_with "30 nz end" => k_extra "L10"
  k_with "30 subscriptTail" => k_extra "L11"
  k_with "30 setItem ref int" => k_extra "L12"
  k_with "30 nz side" => k_extra "L13"
  k_with "30 nz pick" => k_extra "L14"
  k_with "30 nz sub" => k_extra "L15"
  k_with "30 nz news" => k_extra "L16"
  k_with "30 nz same" => k_extra "L17"
  k_with "30 nz out" => k_extra "L18"
  k_with "30 nz len" => k_extra "L19"
  k_with "30 getMethod str" => k_extra "L30"
  k_with "30 call builtin:str.encode" => k_extra "L31"
  k_with "30 call type:bytes" => k_extra "L32"
  k_with "30 call type:bytes" => k_extra "L33"
  k_with "30 call type:bytes" => k_extra "L34"
  k_with "30 call builtin:isinstance" => k_extra "L35"
  k_with "30 nz size" => k_extra "L36"
  k_with "30 nz enterC" => k_extra "L40"
  k_with "30 nz introC" => k_extra "L41"
  k_with "30 nz goC" => k_extra "L42"
  k_with "30 nz steps" => k_extra "L43"
  k_with "30 last wpC" => k_extra "L44"
  k_with "30 wpC" => k_extra "L45"
  k_with "30 wpC" => k_extra "L46"
  k_with "30 wpC" => k_extra "L47"
  k_with "30 wpC" => k_extra "L48"
  k_with "30 wpC" => k_extra "L49"
  k_with "30 wpC" => k_extra "L50"
  k_with "30 wpC" => k_extra "L51"
  k_with "30 wpC" => k_extra "L52"
  k_with "30 wpC" => k_extra "L53"
  k_with "30 wpC" => k_extra "L54"
  k_with "30 wpC" => k_extra "L55"
  k_with "30 wpC" => k_extra "L56"
  k_with "30 wpC" => k_extra "L57"
  k_with "30 wpC" => k_extra "L58"
  k_with "30 wpC" => k_extra "L59"
  k_with "30 wpC" => k_extra "L60"
  k_with "30 wpC" => k_extra "L61"
  k_with "30 getMethod ref" => k_extra "L62"
  k_with "30 wpC" => k_extra "L63"
  k_with "30 nz turn" => k_extra "L64"
  k_with "30 call builtin:len" => k_extra "L65"
  k_with "30 call ref" => k_extra "L66"
  k_with "30 call ref" => k_extra "L67"
  k_with "30 wpC" => k_extra "L68"
  k_with "30 wpC" => k_extra "L69"
  k_with "30 wpC" => k_extra "L70"
  k_with "30 wpC" => k_extra "L71"
  trivial
theorem parts_turn {g : Heap} {L I pa fa ax : Addr} {o : Obj} {pb bx : Array UInt8} {fv : List Value} {fn i : Nat} {tx tk : Tok} {v : Value} {news : Led} {ks : List Int} {k : Int} {s₀ s' : Shared} {Q : Flow → Shared → Prop} (hb : KBw.bInts bx = (pst ks i).2.take 14) (l : I < ax ∧ pa < ax ∧ fa < ax ∧ AllLt ax news)
    (F : Fr g L s'.heap (fun y => if y = Str.ofString "part" then some (.ref ax) else if y = Str.ofString "octet" then some (Value.int k tk) else if y = Str.ofString "found" then some (.ref fa) else if y = Str.ofString "part" then some (.ref pa) else List.lookup y [(Str.ofString "path", v)]))
    (N : News g L s'.heap ((ax, baObj #[]) :: (I, o) :: (pa, baObj pb) :: (fa, listOf (fv.toArray.push (Value.bytes bx tx)) (fn + 1)) :: news)) (S : Same s₀ s')
    (off : ∀ p ∈ (pa, baObj pb) :: (fa, listOf fv.toArray fn) :: news, p.1 ≠ I) (hx : (ks ++ [47])[i]? = some k) (hk : k = 47) (hl : 0 < (pst ks i).2.length) (p1 : BytesAre fv (pst ks i).1) :
    TurnQ g L (Str.ofString "octet") (pBase fa v) (pLd fa news) (pP fa news ks (i + 1)) I o s₀ Q .next s' := by
  have o2 : fa ≠ I := off _ (.tail _ (.head _))
  refine turnQ_of (fv ++ [Value.bytes bx tx], fn + 1, ax, #[]) F ?B ?N ?off ?hP S
  case N =>
    rw [List.push_toArray] at N
    exact news_sub N (sub_cons (.tail _ (.head _)) (sub_cons (.head _) (sub_cons (.tail _ (.tail _ (.tail _ (.head _)))) (sub_tail (sub_tail (sub_tail (sub_tail sub_rfl)))))))
  case B =>
    intro y hy
    have ne : Str.ofString "part" ≠ Str.ofString "found" := by decide
    show (if y = Str.ofString "part" then _ else if y = Str.ofString "octet" then _ else if y = Str.ofString "found" then _ else if y = Str.ofString "part" then _ else _) = (if y = Str.ofString "found" then _ else if y = Str.ofString "part" then _ else _)
    by_cases h1 : y = Str.ofString "part"
    · subst h1; rw [if_pos rfl, if_neg ne, if_pos rfl]
    · rw [if_neg h1, if_neg hy, if_neg h1, if_neg h1]
  case off =>
    intro p hp
    rcases List.mem_cons.mp hp with rfl | hp
    · exact Nat.ne_of_gt l.1
    · rcases List.mem_cons.mp hp with rfl | hp
      · exact o2
      · exact off p (.tail _ (.tail _ hp))
  case hP =>
    show pP fa news ks (i + 1) _
    unfold pP
    rw [pst_next hx]; unfold pstep; rw [if_neg (by omega), if_pos (by omega)]
    exact ⟨p1.snoc hb, rfl, allLt_ne l.2.2.2, Nat.ne_of_lt l.2.2.1⟩
namespace PoH
def SS (w : World) (v : Value) (b : Array UInt8) (ks : List Int) (news : Led) : Prop := OctOf w v b → KBw.bInts b = ks → ks.length ≤ 1000 → CtrC w 184 [v] 3 24 news (fun r l => ∃ fa vs n, r = .ref fa ∧ BytesAre vs (names ks) ∧ l = (fa, listOf vs.toArray n) :: news ∧ ∀ p ∈ news, p.1 < fa)
noncomputable def kk : World × Value × (Array UInt8) × (List Int) × Led := Classical.epsilon fun y => ¬ SS y.1 y.2.1 y.2.2.1 y.2.2.2.1 y.2.2.2.2
@[irreducible] noncomputable def w : World := kk.1
@[irreducible] noncomputable def v : Value := kk.2.1
@[irreducible] noncomputable def b : Array UInt8 := kk.2.2.1
@[irreducible] noncomputable def ks : List Int := kk.2.2.2.1
@[irreducible] noncomputable def news : Led := kk.2.2.2.2
noncomputable def yy : Fm := Classical.epsilon fun y => ¬ PremC w 184 [v] 3 24 news (fun r l => ∃ fa vs n, r = .ref fa ∧ BytesAre vs (names ks) ∧ l = (fa, listOf vs.toArray n) :: news ∧ ∀ p ∈ news, p.1 < fa) y
end PoH
open PoH in
theorem PoH.main (hv : OctOf w v b) (hb : KBw.bInts b = ks) (hz : ks.length ≤ 1000) : PremC w 184 [v] 3 24 news (fun r l => ∃ fa vs n, r = .ref fa ∧ BytesAre vs (names ks) ∧ l = (fa, listOf vs.toArray n) :: news ∧ ∀ p ∈ news, p.1 < fa) yy := by
  k_dflt (refine' premC_of ?k6 ?hb ?_; (case k6 => (with_unfolding_all rfl)); (case hb => (with_unfolding_all rfl)); k_whole)
  k_fill
  intro B F X N T hd hu
  (try dsimp only)
  k_steps
  (rename KBw.bInts (_ ++ _) = _ => q)
  have q' : KBw.bInts (b ++ #[47]) = ks ++ [47] := q
  (rename (_ < _ ∧ AllLt _ _) => z9)
  rename_i fa _ lfa _ _ _ D0 _ ltD _ _ _ _ _ _ _
  k_dflt (refine' forC_bytes (m₀ := _) (σ := List Value × Nat × Addr × Array UInt8) (fun c y => if y = Str.ofString "found" then some (.ref fa) else if y = Str.ofString "part" then some (.ref c.2.2.1) else List.lookup y [(Str.ofString "path", v)]) (fun c => (c.2.2.1, baObj c.2.2.2) :: (fa, listOf c.1.toArray c.2.1) :: news) (fun i c => BytesAre c.1 (pst ks i).1 ∧ KBw.bInts c.2.2.2 = (pst ks i).2 ∧ (∀ p ∈ news, p.1 ≠ c.2.2.1) ∧ neN8 fa c.2.2.1) ([], 0, a9, #[]) q' rfl F9 N9 ?sb ?h0 ?hm ?turn ?done)
  case hm => exact fun y hy => by rfl
  case sb => exact sub_tail (sub_rfl)
  case h0 => exact ⟨.nil, rfl, allLt_ne z9.2, Nat.ne_of_lt z9.1⟩
  case turn =>
    intro i k tk c I o s' hx k0 k1 hP off F1 N1 hS
    obtain ⟨fv, fn, pa, pb⟩ := c
    obtain ⟨p1, p2, p3, p4⟩ := hP
    dsimp only at p1 p2 p3 p4 off F1 N1
    have o1 : (_ : Nat) ≠ I := off _ (.head _)
    have o2 : (_ : Nat) ≠ I := off _ (.tail _ (.head _))
    dsimp only at o1 o2
    have p4 : (_ : Nat) ≠ pa := p4
    have hi : i ≤ 1001 := by
      have := (List.getElem?_eq_some_iff.mp hx).1
      simp at this; omega
    have hfl : fv.length ≤ 1001 := by have := (pst_small ks i).1; rw [p1.length]; omega
    have hpl : (pst ks i).2.length ≤ 1001 := by have := (pst_small ks i).2; omega
    k_steps
    · refine' turnQ_of (fv, fn, pa, _) ?F ?B ?N ?off ?hP ?S
      case F => k_asm
      case S => exact Same.trans (by assumption) ⟨rfl, rfl, rfl⟩
      case N => k_asm
      case B => exact fun y hy => by simp only [if_neg hy]
      case off => exact off_upd off
      case hP => (rename k ≠ 47 => hk47); rw [pst_next hx]; unfold pstep; rw [if_pos hk47]; exact ⟨p1, by assumption, p3, p4⟩
    · exact parts_turn (by assumption) (by assumption) (by assumption) (by assumption) (Same.trans hS ⟨rfl, rfl, rfl⟩) off hx (by assumption) (by omega) p1
    · refine' turnQ_of (fv, fn, pa, pb) ?F ?B ?N ?off ?hP ?S
      case F => k_asm
      case S => exact Same.trans (by assumption) ⟨rfl, rfl, rfl⟩
      case N => k_asm
      case B => exact fun y hy => by simp only [if_neg hy]
      case off => exact off
      case hP =>
        (rename ¬ 0 < _ => hl)
        rw [pst_next hx]; unfold pstep; rw [if_neg (by omega), if_neg (by omega)]
        exact ⟨p1, p2, p3, p4⟩
  case done =>
    intro v' c s' hP F1 N1 hS
    obtain ⟨fv, fn, pa, pb⟩ := c
    obtain ⟨p1, p2, p3, p4⟩ := hP
    dsimp only at p1 p2 p3 p4 F1 N1
    k_steps
    walk_at "nz out"
    case P => exact ⟨fa, fv, fn, rfl, by (have e : (ks ++ [47]).length = ks.length + 1 := by simp); rw [e] at p1; exact p1, rfl, lfa⟩
    case N => walk_at "nz news"
open PoH in
theorem PoH.fin (hv : OctOf w v b) (hb : KBw.bInts b = ks) (hz : ks.length ≤ 1000) : CtrC w 184 [v] 3 24 news (fun r l => ∃ fa vs n, r = .ref fa ∧ BytesAre vs (names ks) ∧ l = (fa, listOf vs.toArray n) :: news ∧ ∀ p ∈ news, p.1 < fa) := by
  have h : ∀ y, PremC w 184 [v] 3 24 news (fun r l => ∃ fa vs n, r = .ref fa ∧ BytesAre vs (names ks) ∧ l = (fa, listOf vs.toArray n) :: news ∧ ∀ p ∈ news, p.1 < fa) y := henk (PoH.main hv hb hz)
  walk_at "nz enterC"
  intro mean mg mb dp un gd env outer base g L s B F X N T hd hu
  (with_unfolding_all refine' h ⟨mean, mg, mb, dp, un, gd, env, outer, base, g, L, s⟩ _ _ _ _ _ _ _ _ _ _ _ _ _ _ _ ?k6 ?zB ?zF ?zX ?zN ?zT ?zhd ?zhu)
  (case k6 => with_unfolding_all rfl)
  (case zB => with_unfolding_all exact B)
  (case zF => with_unfolding_all exact F)
  (case zX => with_unfolding_all exact X)
  (case zN => with_unfolding_all exact N)
  (case zT => with_unfolding_all exact T)
  (case zhd => with_unfolding_all exact hd)
  (case zhu => with_unfolding_all exact hu)
theorem c_parts_of (w : World) (v : Value) (b : Array UInt8) (ks : List Int) (news : Led) (hv : OctOf w v b) (hb : KBw.bInts b = ks) (hz : ks.length ≤ 1000) : CtrC w 184 [v] 3 24 news (fun r l => ∃ fa vs n, r = .ref fa ∧ BytesAre vs (names ks) ∧ l = (fa, listOf vs.toArray n) :: news ∧ ∀ p ∈ news, p.1 < fa) := by
  refine henk (P := fun y => PoH.SS y.1 y.2.1 y.2.2.1 y.2.2.2.1 y.2.2.2.2) ?_ (w, v, b, ks, news) hv hb hz
  intro hv hb hz
  with_unfolding_all exact PoH.fin hv hb hz
end
section
theorem off_NzR : True := by
  w_top off
  trivial
open PySem PySem.W PySem.Calls PyProof.Rows PySem.Builtin
section
variable {prog : Program} {w : World} {A : Around} {E : Value → Shared → Prop} {s : Shared} {h₀ : Heap} {L : Addr} {m : Str → Option Value} {news : Led}
theorem nz_add {l b : Addr} {its its2 : Array Value} {n1 n2 : Nat} {Q : Value → Shared → Prop} (F : Fr h₀ L s.heap m) (N : News h₀ L s.heap news) (hl : (l, listOf its n1) ∈ news) (hb : (b, listOf its2 n2) ∈ news) (hsz : its.size + its2.size ≤ 16777216)
    (h : ∀ a h', Fr h₀ L h' m → News h₀ L h' ((a, listOf (its.toList ++ its2.toList).toArray 0) :: news) → (∀ p ∈ news, p.1 < a) → Q (.ref a) { s with heap := h' }) :
    wpAny (model prog w) A (binaryOp .Add (.ref l) (.ref b)) Q E s :=
  add_arrays F N ⟨_, (N _ hl).1, rfl, n1, rfl⟩ ⟨_, (N _ hb).1, rfl, n2, rfl⟩ (fun h' F' N' => h _ h' F' N' fun p hp => Heap.lt_size (N p hp).1) (by rw [sizeLine_eq]; exact hsz)
end
section
variable {g : Heap} {L I : Addr} {x : Str} {o : Obj} {s₀ s' : Shared} {Q : Flow → Shared → Prop} {news led : Led}
theorem allLt_lt {x : Addr} {l : Led} (h : AllLt x l) : ∀ q ∈ l, q.1 < x := by
  induction l with
  | nil => intro q hq; cases hq
  | cons p r ih =>
    intro q hq
    rcases List.mem_cons.mp hq with e | hq
    · rw [e]; exact h.1
    · exact ih h.2 q hq
/-- the octet at a place behind which a slash is thought -/
theorem sgn_end {ks : List Int} {i : Nat} (hi : i ≤ ks.length) (h : (ks.drop i).take 1 = [47] ∨ (ks.drop i).take 1 = []) : (ks ++ [47])[i]? = some 47 := by
  by_cases e : i < ks.length
  · have q : (ks.drop i).take 1 = [ks[i]] := by rw [List.drop_eq_getElem_cons e]; rfl
    rw [q] at h
    have : ks[i] = 47 := by simpa using h
    rw [List.getElem?_append_left e, List.getElem?_eq_getElem e, this]
  · have : i = ks.length := by omega
    subst this
    simp
theorem sgn_in {ks : List Int} {i : Nat} (hi : i ≤ ks.length) (h1 : (ks.drop i).take 1 ≠ [47]) (h2 : (ks.drop i).take 1 ≠ []) : ∃ k, (ks.drop i).take 1 = [k] ∧ k ≠ 47 ∧ (ks ++ [47])[i]? = some k := by
  by_cases e : i < ks.length
  · have q : (ks.drop i).take 1 = [ks[i]] := by rw [List.drop_eq_getElem_cons e]; rfl
    refine ⟨ks[i], q, fun z => h1 (by rw [q, z]), ?_⟩
    rw [List.getElem?_append_left e, List.getElem?_eq_getElem e]
  · exact absurd (by rw [List.drop_eq_nil_of_le (by omega)]; rfl) h2
theorem take14_nil {l : List Int} : l.take 14 = [] ↔ l = [] := by cases l <;> simp
theorem pst_push {ks : List Int} {i : Nat} (hx : (ks ++ [47])[i]? = some 47) (h : (pst ks i).2.take 14 ≠ []) : pst ks (i + 1) = ((pst ks i).1 ++ [(pst ks i).2.take 14], []) := by
  rw [pst_next hx]; unfold pstep
  rw [if_neg (by simp), if_pos (List.length_pos_iff.mpr fun e => h (take14_nil.mpr e))]
theorem pst_stay {ks : List Int} {i : Nat} (hx : (ks ++ [47])[i]? = some 47) (h : (pst ks i).2.take 14 = []) : pst ks (i + 1) = pst ks i := by
  rw [pst_next hx]; unfold pstep
  rw [if_neg (by simp), if_neg (by rw [take14_nil.mp h]; simp)]
theorem pst_more {ks : List Int} {i : Nat} {k : Int} (hx : (ks ++ [47])[i]? = some k) (hk : k ≠ 47) : pst ks (i + 1) = ((pst ks i).1, (pst ks i).2 ++ [k]) := by
  rw [pst_next hx]; unfold pstep
  rw [if_pos hk]
theorem take14_app {l : List Int} {k : Int} (h : (l.take 14).length < 14) : (l ++ [k]).take 14 = l.take 14 ++ [k] := by
  have h' : l.length < 14 := by simp at h; omega
  rw [List.take_of_length_le (by simp; omega), List.take_of_length_le (by omega)]
theorem take14_full {l : List Int} {k : Int} (h : ¬ (l.take 14).length < 14) : (l ++ [k]).take 14 = l.take 14 := by
  have h' : 14 ≤ l.length := by simp at h; omega
  rw [List.take_append_of_le_length h']
theorem bInts_inj : ∀ {a b : Array UInt8}, KBw.bInts a = KBw.bInts b → a = b := by
  intro a b h
  have key : ∀ (l m : List UInt8), l.map (fun c => (c.toNat : Int)) = m.map (fun c => (c.toNat : Int)) → l = m := by
    intro l
    induction l with
    | nil => intro m hm; cases m with
      | nil => rfl
      | cons _ _ => simp at hm
    | cons a r ih =>
      intro m hm
      cases m with
      | nil => simp at hm
      | cons c m =>
        simp only [List.map_cons, List.cons.injEq] at hm
        have : a = c := UInt8.toNat_inj.mp (by omega)
        rw [this, ih m hm.2]
  exact Array.toList_inj.mp (key _ _ h)
theorem eq_ints {a b : Array UInt8} {ks ls : List Int} (ha : KBw.bInts a = ks) (hb : KBw.bInts b = ls) : (a.toList == b.toList) = decide (ks = ls) := by
  by_cases h : ks = ls
  · have : a = b := bInts_inj (by rw [ha, hb, h])
    rw [this, decide_eq_true h]; simp
  · rw [decide_eq_false h, beq_eq_false_iff_ne]
    intro e
    exact h (by rw [← ha, ← hb, Array.toList_inj.mp e])
theorem sign_ints {ks : List Int} {i : Nat} (hi : i ≤ ks.length) : List.take (clipAt ks.length ((i : Int) + 1) - min i ks.length) (List.drop (min i ks.length) ks) = (ks.drop i).take 1 := by
  have : clipAt ks.length ((i : Int) + 1) = min (i + 1) ks.length := by
    rw [show ((i : Int) + 1) = ((i + 1 : Nat) : Int) by omega, clipAt_nat]
  rw [this, Nat.min_eq_left hi]
  by_cases e : i < ks.length
  · rw [Nat.min_eq_left (by omega), show i + 1 - i = 1 by omega]
  · rw [List.drop_eq_nil_of_le (by omega)]; simp
abbrev lpBase (b : Array UInt8) (t : Tok) (c : List Value × Nat × Addr × Array UInt8 × Tok × Option Value) (y : Str) : Option Value := if y = Str.ofString "sign" then c.2.2.2.2.2 else if y = Str.ofString "here" then some (.bytes c.2.2.2.1 c.2.2.2.2.1) else if y = Str.ofString "found" then some (.ref c.2.2.1) else List.lookup y [(Str.ofString "octets", Value.bytes b t)]
abbrev lpLd (news : Led) (c : List Value × Nat × Addr × Array UInt8 × Tok × Option Value) : Led := (c.2.2.1, listOf c.1.toArray c.2.1) :: news
abbrev lpP (news : Led) (ks : List Int) (i : Nat) (c : List Value × Nat × Addr × Array UInt8 × Tok × Option Value) : Prop := BytesAre c.1 (pst ks i).1 ∧ KBw.bInts c.2.2.2.1 = (pst ks i).2.take 14 ∧ (∀ p ∈ news, p.1 < c.2.2.1)
theorem lp_turn {b : Array UInt8} {t : Tok} {ks : List Int} {i n' : Nat} {fa' : Addr} {vs' : List Value} {hb' : Array UInt8} {th' : Tok} {m' : Str → Option Value} (F : Fr g L s'.heap m') (hf : m' (Str.ofString "found") = some (.ref fa')) (hv : m' (Str.ofString "here") = some (.bytes hb' th'))
    (ho : ∀ y, y ≠ Str.ofString "at" → y ≠ Str.ofString "sign" → y ≠ Str.ofString "here" → y ≠ Str.ofString "found" → m' y = List.lookup y [(Str.ofString "octets", Value.bytes b t)])
    (N : News g L s'.heap led) (hN : ∀ p ∈ (I, o) :: (fa', listOf vs'.toArray n') :: news, p ∈ led) (hP : BytesAre vs' (pst ks (i + 1)).1) (hH : KBw.bInts hb' = (pst ks (i + 1)).2.take 14) (hlt : ∀ p ∈ news, p.1 < fa') (hoff : fa' ≠ I) (hoff2 : ∀ p ∈ news, p.1 ≠ I) (S : Same s₀ s') :
    TurnQ g L (Str.ofString "at") (lpBase b t) (lpLd news) (lpP news ks (i + 1)) I o s₀ Q .next s' := by
  refine turnQ_of (vs', n', fa', hb', th', m' (Str.ofString "sign")) F ?B (news_sub N hN) ?off ⟨hP, hH, hlt⟩ S
  case B =>
    intro y hy
    by_cases h1 : y = Str.ofString "sign"
    · subst h1; rw [lpBase, if_pos rfl]
    · by_cases h2 : y = Str.ofString "here"
      · subst h2; rw [lpBase, if_neg h1, if_pos rfl]; exact hv
      · by_cases h3 : y = Str.ofString "found"
        · subst h3; rw [lpBase, if_neg h1, if_neg h2, if_pos rfl]; exact hf
        · rw [lpBase, if_neg h1, if_neg h2, if_neg h3]; exact ho y hy h1 h2 h3
  case off =>
    intro p hp
    rcases List.mem_cons.mp hp with rfl | hp
    · exact hoff
    · exact hoff2 p hp
end
end
section
theorem off_NzX1 : True := by
  w_top off
  trivial
open PySem PySem.W PySem.Calls PyProof.Rows PySem.Builtin PySem.Builtin.ObjectAttr
def xTail : List Value := [.ref 32, .type "ValueError", .type "Exception", .type "BaseException", .type "object"]
def xOk (K : Frag) (C : Addr) : Bool := (clsIn K C).any fun cd => cd.hasDict && cd.mro == .ref C :: xTail
theorem x_cls {p : Params} {C : Addr} (hC : C = 45 ∨ C = 57) : ∃ cd, clsIn (NzH.hd.heap_39 p) C = some cd ∧ cd.hasDict = true ∧ cd.mro = .ref C :: xTail := by
  have q : xOk (NzH.hd.heap_39 p) C = true := by rcases hC with rfl | rfl <;> kernel_rfl
  obtain ⟨cd, h1, h2⟩ := any_some q
  rw [Bool.and_eq_true] at h2
  exact ⟨cd, h1, h2.1, eq_of_beq h2.2⟩
theorem x_obj {K : Frag} {C : Addr} {cd : ClassData} (h : clsIn K C = some cd) : ∃ oc od sl, K.lookup C = some ⟨oc, od, .cls cd, sl⟩ := by
  unfold clsIn at h
  split at h
  · rename_i ho; cases h; exact ⟨_, _, _, ho⟩
  · cases h
section
variable {prog : Program} {w : World} {A : Around} {E : Value → Shared → Prop} {s : Shared}
theorem xa_refuse (self : Value) (C : Addr) : refuseLoop self "__setattr__" (.ref C :: xTail) = pure () := by
  unfold xTail
  rw [refuseLoop_ref, refuseLoop_ref]; kernel_rfl
theorem xa_set {C e : Addr} {oe : Obj} {vs : Array Value} {name : Str} {v : Value} {Q : Unit → Shared → Prop} (X : (NzH.hd.heap_39 w.params).In s.heap) (hC : C = 45 ∨ C = 57) (he : s.heap.get? e = some oe) (hcls : oe.cls = .ref C) (hdict : oe.dict = none) (hd : oe.data = .fields vs)
    (hn : name = Str.ofString "reason")
    (h : ∀ h' tk d, (∀ b o, b ≠ e → s.heap.get? b = some o → h'.get? b = some o) → h'.get? e = some { oe with dict := some d } → Q () { s with heap := h', toks := tk }) :
    wpAny (model prog w) A (setAttr (.ref e) name v) Q E s := by
  subst hn
  obtain ⟨oc, od, oda, osl⟩ := oe
  dsimp only at hcls hdict hd
  subst hcls hdict hd
  have I : InstAt s.heap e ⟨.ref C, none, .fields vs, osl⟩ C none := ⟨he, rfl, rfl, trivial⟩
  have f1 : findIn (NzH.hd.heap_39 w.params) (.ref C) (Str.ofString "__setattr__") = some (some (.builtin "object.__setattr__")) := by rcases hC with rfl | rfl <;> kernel_rfl
  have f2 : findIn (NzH.hd.heap_39 w.params) (.ref C) (Str.ofString "reason") = some none := by rcases hC with rfl | rfl <;> kernel_rfl
  obtain ⟨cd, f3, f4, f5⟩ := x_cls (p := w.params) hC
  refine set_plain X I f1 ?_
  have SF := PySem.F.store_object
  have ne : cd.mro.isEmpty = false := by rw [f5]; rfl
  have has : cd.mro.contains (.type "object") = true := by rw [f5]; unfold xTail; simp
  have sub : Looks (model prog w) s.heap (isInstance (.ref e) (.type "object")) true := I.type.andThen (looks_mroIn X (by unfold mroIn; rw [f3, Option.bind_some, if_neg (by rw [ne]; decide), has]))
  refine codeAny_call_builtin SF.slot.plain SF.entry (@check_slot (model prog w) _ _ { s with toks := s.toks + 1 } "object.__setattr__" "object" "__setattr__" (.ref e) [.str (Str.ofString "reason") s.toks, v] [] _ SF.kind SF.split sub (SF.args (.ref e) (.str (Str.ofString "reason") s.toks) v) ?_)
  have hm : Looks (model prog w) s.heap (mroOf (.ref C)) cd.mro := (looks_clsIn X f3).andThen .now
  rw [osa_eq, refuse_eq]
  refine wpAny_bind (wpAny_bind (Looks.here (s := { s with toks := s.toks + 1 }) I.type (wpAny_bind (Looks.here (s := { s with toks := s.toks + 1 }) hm ?_))))
  rw [f5, xa_refuse]
  refine wpAny_pure (wpAny_bind (Looks.here (s := { s with toks := s.toks + 1 }) I.type (wpAny_bind (Looks.here (s := { s with toks := s.toks + 1 }) (looks_findIn X f2) (wpAny_bind ?_)))))
  refine wpAny_pure ?_
  show wpAny _ _ (storeInOwnDict (.ref e) (.ref C) (.str (Str.ofString "reason") s.toks) (Str.ofString "reason") v false) _ _ _
  unfold storeInOwnDict
  refine wpAny_bind (m := ownStreamTells _ _) (wpAny_pure (wpAny_bind ?_))
  show wpAny _ _ (instanceDict e true) _ _ _
  unfold instanceDict
  refine wpAny_bind (wpAny_loadPart he ?_)
  dsimp only
  refine wpAny_bind (Looks.here (s := { s with toks := s.toks + 1 }) (looks_clsIn X f3) ?_)
  rw [f4]
  rw [if_neg (by decide)]
  refine wpAny_bind (wpAny_alloc ?_)
  have hne : s.heap.objs.size ≠ e := Nat.ne_of_gt (Heap.lt_size he)
  have he₁ := Heap.get?_push_of_some emptyDict he
  refine wpAny_bind (wpAny_update he₁ ?_)
  have D₁ : (s.heap.push emptyDict).get? s.heap.objs.size = some emptyDict := Heap.get?_push_size _ rfl
  have D₂ := (Heap.get?_update_other (s.heap.push emptyDict) (fun o => { o with dict := some s.heap.objs.size }) (Ne.symm hne)).trans D₁
  have E₂ := Heap.get?_update_self (fun o : Obj => { o with dict := some s.heap.objs.size }) he₁ rfl
  refine wpAny_pure ?_
  dsimp only
  unfold storeInDict
  refine wpAny_bind (wpAny_pure (wpAny_bind ?_))
  unfold nsSet
  refine wpAny_bind (wpAny_bind (wpAny_askSetting (wpAny_pure (wpAny_bind (wpAny_mkText (wpAny_bind (wpAny_loadPart D₂ ?_)))))))
  dsimp only
  rw [aRefKeyMayBeTheName_at, if_neg (by simp)]
  refine wpAny_updatePart D₂ ?_
  have D₃ := Heap.get?_update_self (Obj.putName (Str.ofString "reason") (PyData.keyHash w.params (Str.ofString "reason")) (.str (Str.ofString "reason") (s.toks + 1)) v) D₂ rfl
  refine wpAny_bind (wpAny_lookBehind D₃ rfl ?_)
  refine wpAny_pure (h _ _ s.heap.objs.size (fun b o hb ho => ?_) ?_)
  · rw [Heap.get?_update_other _ _ (Nat.ne_of_gt (Heap.lt_size ho)), Heap.get?_update_other _ _ (Ne.symm hb)]
    exact Heap.get?_push_of_some _ ho
  · rw [Heap.get?_update_other _ _ hne]
    exact E₂
theorem xa_sub {C : Addr} (hC : C = 45 ∨ C = 57) {T : String} (hT : (Value.ref C :: xTail).contains (.type T) = true) {h : Heap} (X : (NzH.hd.heap_39 w.params).In h) {M : Model} : Looks M h (isSubtype (.ref C) (.type T)) true := by
  obtain ⟨cd, f3, f4, f5⟩ := x_cls (p := w.params) hC
  have ne : cd.mro.isEmpty = false := by rw [f5]; rfl
  exact looks_mroIn X (by unfold mroIn; rw [f3, Option.bind_some, if_neg (by rw [ne]; decide), f5, hT])
theorem xa_init {C e t0 : Addr} {oe : Obj} {c1 c2 c3 c4 c5 : Value} {v : Value} {Q : Value → Shared → Prop} (X : (NzH.hd.heap_39 w.params).In s.heap) (hC : C = 45 ∨ C = 57) (he : s.heap.get? e = some oe) (hcls : oe.cls = .ref C) (hd : oe.data = .fields #[.ref t0, c1, c2, c3, c4, c5])
    (h : ∀ h' t, (∀ b o, b ≠ e → s.heap.get? b = some o → h'.get? b = some o) → h'.get? e = some { oe with data := .fields #[.ref t, c1, c2, c3, c4, c5] } → Q .none { s with heap := h' }) :
    wpAny (model prog w) A (call (.builtin "ValueError.__init__") [.ref e, v]) Q E s := by
  obtain ⟨oc, od, oda, osl⟩ := oe
  dsimp only at hcls hd
  subst hcls hd
  have FB := PySem.F.excBase_ValueError
  obtain ⟨hp, g, d, tk, os⟩ := s
  dsimp only at X he h
  obtain ⟨cd, f3, f4, f5⟩ := x_cls (p := w.params) hC
  obtain ⟨kc, kd, ks, f6⟩ := x_obj f3
  have hCl := X _ _ f6
  have ty : Looks (model prog w) hp (typeOf (.ref e)) (.ref C) := (Looks.ld (part := none) he).andThen .now
  have sub : Looks (model prog w) hp (isInstance (.ref e) (.type "ValueError")) true := ty.andThen (xa_sub hC (by unfold xTail; simp) X)
  refine wpAny_call (codeAny_call_builtin FB.init.plain FB.initEntry ?_)
  simp only [checkBuiltinCall, FB.initKind, FB.initSplit, FB.initRow]
  refine wpAny_bind (Looks.here (s := ⟨hp, g, d, tk, os⟩) sub ?_)
  simp only [Bool.not_true, Bool.false_eq_true, if_false]
  repeat (any_goals (first | assumption | with_reducible refine wpAny_loadPart_at hCl ?_ | with_reducible refine wpAny_loadPart_at he ?_ | wp_step))
  refine h _ hp.objs.size (fun b o hb ho => ?_) ?_
  · rw [Heap.get?_update_other _ _ (Ne.symm hb)]
    exact Heap.get?_push_of_some _ ho
  · exact Heap.get?_update_self (Obj.mapFields fun x => x.setIfInBounds 0 (Value.ref hp.objs.size)) (Heap.get?_push_of_some _ he) rfl
end
end
section
theorem off_NzX2 : True := by
  w_top off
  trivial
open PySem PySem.W PySem.Calls PyProof.Rows PySem.Builtin PySem.Builtin.ObjectAttr
def xIn (K : Frag) (C : Addr) : Bool := match K.lookup C with
  | some ⟨.type t, _, .cls cd, sl⟩ => (match sl.toList with
    | [_, _, _, _, some (.builtin n), _] => t == "type" && cd.mro == .ref C :: xTail && !cd.hasDel && n == "ValueError.__new__"
    | _ => false)
  | _ => false
theorem x_at {K : Frag} {h : Heap} {C : Addr} (X : K.In h) (q : xIn K C = true) : ∃ nm qn N bs hdct sn sub ab col dd k0 k1 k2 k3 k5,
    h.get? C = some (excClassObj nm qn C N bs xTail hdct sn sub ab col dd k0 k1 k2 k3 k5 "ValueError.__new__") := by
  unfold xIn at q
  split at q
  · rename_i t dd cd sl ho
    split at q
    · rename_i k0 k1 k2 k3 n k5 hs
      simp only [Bool.and_eq_true, beq_iff_eq, Bool.not_eq_true'] at q
      obtain ⟨⟨⟨rfl, hm⟩, hdel⟩, rfl⟩ := q
      obtain ⟨sl⟩ := sl
      obtain ⟨nm, bs, mro, ns, qn, hd, sn, sub, ab, col, del⟩ := cd
      dsimp only at hs hm hdel
      subst hs hm hdel
      exact ⟨nm, qn, ns, bs, hd, sn, sub, ab, col, dd, k0, k1, k2, k3, k5, X _ _ ho⟩
    · cases q
  · cases q
theorem x_in {p : Params} {C : Addr} (hC : C = 45 ∨ C = 57) : xIn (NzH.hd.heap_39 p) C = true := by rcases hC with rfl | rfl <;> kernel_rfl
section
variable {prog : Program} {w : World} {A : Around} {E : Value → Shared → Prop} {s : Shared}
abbrev rawExc (C t : Addr) : Obj := { cls := .ref C, data := .fields #[.ref t, .none, .none, .none, .bool false, .none] }
/-- a call of one of the two classes: the new object, then the text's own __init__ -/
theorem x_make {C : Addr} {v : Value} {Q : Value → Shared → Prop} (X : (NzH.hd.heap_39 w.params).In s.heap) (hC : C = 45 ∨ C = 57)
    (hq : ∀ h' e t, (∀ b o, s.heap.get? b = some o → h'.get? b = some o) → s.heap.objs.size ≤ e → h'.get? e = some (rawExc C t) →
      wpAny (model prog w) (A.under (.builtin "type.__call__" ⟨[.ref C, v], []⟩)) (call (.ref 29) [.ref e, v]) (fun r s' => r = .none ∧ Q (.ref e) s') E { s with heap := h' }) :
    wpAny (model prog w) A (call (.ref C) [v]) Q E s := by
  have FB := PySem.F.excBase_ValueError
  obtain ⟨hp, g, d, tk, os⟩ := s
  dsimp only at X hq
  obtain ⟨nm, qn, N, bs, hdct, sn, sub, ab, col, dd, k0, k1, k2, k3, k5, hCl⟩ := x_at X (x_in (p := w.params) hC)
  have f1 := tc_lookup
  have f2 := tc_bind (.ref C)
  have hT : (⟨hp, g, d, tk, os⟩ : Shared).TypeIs (.ref C) "type" := ⟨_, hCl, rfl⟩
  have b1 : (Value.ref C :: xTail).contains (.type "ValueError") = true := by unfold xTail; simp
  have b2 : (Value.ref C :: xTail).contains (.type "AttributeError") = false := by unfold xTail; simp
  have b3 : (Value.ref C :: xTail).contains (.type "NameError") = false := by unfold xTail; simp
  have b4 : (Value.ref C :: xTail).contains (.ref C) = true := by simp
  have hi : findIn (NzH.hd.heap_39 w.params) (.ref C) (Str.ofString "__init__") = some (some (.ref 29)) := by rcases hC with rfl | rfl <;> kernel_rfl
  have hf : typeIn (NzH.hd.heap_39 w.params) (.ref 29) = some (.type "function") := by kernel_rfl
  refine wpAny_call (codeAny_of_tree ?_)
  show wpAny _ _ (callAny (.ref C) _) _ _ _
  repeat (any_goals (first | assumption | with_reducible refine wpAny_loadPart_at hCl ?_ | wp_step))
  refine ⟨rfl, ?_⟩
  refine codeAny_call_builtin_at (Code.quiet_builtin _ (by decide +kernel)) entry_typeCall (wpAny_check_type_call_sub hCl ?_)
  repeat (first | with_reducible refine wpAny_loadPart_at hCl ?_ | with_reducible refine wpAny_madeBy_exc hCl ?_ | wp_step)
  refine codeAny_call_builtin_code (Code.quiet_builtin _ FB.quiet) ?_
  have star := FB.noStar
  simp only [checkBuiltinCall, FB.newKind, FB.newSplit, FB.newRow]
  repeat (first | refine wpAny_loadPart_at hCl ?_ | (refine wpAny_isSubtype_exc hCl ?_; rw [b1]) | refine wpAny_staticBase_exc hCl ?_ | refine wpAny_madeBy_exc hCl ?_ | simp only [bne_self_eq_false, Bool.false_eq_true, if_false] | wp_step)
  have ends := FB.ends
  refine codeAny_builtinAt FB.entry ?_
  unfold Builtin.«BaseException.__new__»
  refine PySem.wpAt_bind ?_
  show PySem.wpAt _ _ _ (stack >>= _) _ _ _
  refine PySem.wpAt_bind (PySem.wpAt_stack fun p below => PySem.wpAt_of_wpAny ?_)
  wp_walk
  refine PySem.wpAt_of_wpAny ?_
  rw [FB.owner]
  repeat (first | with_reducible refine wpAny_madeHere_exc FB.canon hCl ?_ | with_reducible refine wpAny_loadPart_at hCl ?_ | (with_reducible refine wpAny_isSubtype_exc hCl ?_; first | rw [b1] | rw [b2] | rw [b3]) | wp_step)
  have K2 : ∀ b o, hp.get? b = some o → ((hp.push { cls := .type "tuple", data := .seq ([].append [v]).toArray }).push (rawExc C hp.objs.size)).get? b = some o := fun b o z => Heap.get?_push_of_some _ (Heap.get?_push_of_some _ z)
  have E2 : ((hp.push { cls := .type "tuple", data := .seq ([].append [v]).toArray }).push (rawExc C hp.objs.size)).get? (hp.push { cls := .type "tuple", data := .seq ([].append [v]).toArray }).objs.size = some (rawExc C hp.objs.size) := Heap.get?_push_size _ rfl
  have X2 := X.keeps K2
  have ty : Looks (model prog w) ((hp.push { cls := .type "tuple", data := .seq ([].append [v]).toArray }).push (rawExc C hp.objs.size)) (typeOf (.ref (hp.push { cls := .type "tuple", data := .seq ([].append [v]).toArray }).objs.size)) (.ref C) := (Looks.ld (part := none) E2).andThen .now
  have li : Looks (model prog w) ((hp.push { cls := .type "tuple", data := .seq ([].append [v]).toArray }).push (rawExc C hp.objs.size)) (typeLookup (.ref C) (Str.ofString "__init__")) (some (.ref 29)) := looks_findIn X2 hi
  have bf : Looks (model prog w) ((hp.push { cls := .type "tuple", data := .seq ([].append [v]).toArray }).push (rawExc C hp.objs.size)) (bindSpecial (.ref 29) (.ref (hp.push { cls := .type "tuple", data := .seq ([].append [v]).toArray }).objs.size)) (.ref 29, [.ref (hp.push { cls := .type "tuple", data := .seq ([].append [v]).toArray }).objs.size]) := bind_fn X2 _ hf
  refine wpAny_isSubtype_exc (h := (hp.push { cls := .type "tuple", data := .seq ([].append [v]).toArray }).push (rawExc C hp.objs.size)) (K2 _ _ hCl) ?_
  rw [b4]
  simp only [Bool.not_true, Bool.false_eq_true, if_false]
  refine wpAny_bind (wpAny_holding ?_)
  unfold callSpecial? specialOf
  refine wpAny_bind (wpAny_bind (Looks.here (s := ⟨(hp.push { cls := .type "tuple", data := .seq ([].append [v]).toArray }).push (rawExc C hp.objs.size), g, d, tk, os⟩) ty ?_))
  refine Looks.here (s := ⟨(hp.push { cls := .type "tuple", data := .seq ([].append [v]).toArray }).push (rawExc C hp.objs.size), g, d, tk, os⟩) li ?_
  dsimp only
  refine wpAny_holding (wpAny_bind (Looks.here (s := ⟨(hp.push { cls := .type "tuple", data := .seq ([].append [v]).toArray }).push (rawExc C hp.objs.size), g, d, tk, os⟩) bf ?_))
  refine wpAny_bind (wpAny_mono (hq _ _ _ K2 (by rw [Heap.size_push]; exact Nat.le_succ _) E2) (fun r s' z => ?_) fun _ _ z => z)
  obtain ⟨rfl, z⟩ := z
  exact wpAny_pure (wpAny_pure z)
end
end
section
local macro_rules | `(tactic| walk_at $s:str) => `(tactic| k_extra $(Lean.Syntax.mkStrLit ("34 " ++ s.getString)))
theorem off_NzX3 : True := by
  w_top off
  trivial
open PySem PySem.W PySem.Calls PyProof.Rows
section
variable {prog : Program} {w : World} {A : Around} {E : Value → Shared → Prop} {s : Shared} {h₀ : Heap} {L : Addr} {m : Str → Option Value} {news : Led}
theorem kw0_NzX3 : True := by
  k_with "34 nz pq" => k_extra "L0"
  k_with "34 nz pn" => k_extra "L1"
  k_with "34 nz pi" => k_extra "L2"
  k_with "34 nz pr" => k_extra "L3"
  k_with "34 nz oo" => k_extra "L4"
  k_with "34 nz zz" => k_extra "L5"
  k_with "34 nz om" => k_extra "L6"
  k_with "34 nz enter" => k_extra "L7"
  k_with "34 nz intro" => k_extra "L8"
  k_with "34 nz go" => k_extra "L9"
  k_with "34 nz end" => k_extra "L10"
  k_with "34 subscriptTail" => k_extra "L11"
  k_with "34 setItem ref int" => k_extra "L12"
  k_with "34 nz side" => k_extra "L13"
  k_with "34 nz pick" => k_extra "L14"
  k_with "34 nz sub" => k_extra "L15"
  k_with "34 nz news" => k_extra "L16"
  k_with "34 nz same" => k_extra "L17"
  k_with "34 nz out" => k_extra "L18"
  k_with "34 nz len" => k_extra "L19"
  k_with "34 getMethod str" => k_extra "L30"
  k_with "34 call builtin:str.encode" => k_extra "L31"
  k_with "34 call type:bytes" => k_extra "L32"
  k_with "34 call type:bytes" => k_extra "L33"
  k_with "34 call type:bytes" => k_extra "L34"
  k_with "34 call builtin:isinstance" => k_extra "L35"
  k_with "34 nz size" => k_extra "L36"
  trivial
theorem news_but1 {h h' : Heap} {e : Addr} {oe oe' : Obj} {pre post : Led} (F : Fr h₀ L h m) (N : News h₀ L h (pre ++ (e, oe) :: post)) (u1 : ∀ p ∈ pre, p.1 ≠ e) (u2 : ∀ p ∈ post, p.1 ≠ e)
    (k : ∀ b o, b ≠ e → h.get? b = some o → h'.get? b = some o) (he : h'.get? e = some oe') : Fr h₀ L h' m ∧ News h₀ L h' (pre ++ (e, oe') :: post) := by
  have z := N (e, oe) (List.mem_append.mpr (.inr (.head _)))
  obtain ⟨oL, es, ep, hL, r⟩ := F.ns
  refine ⟨⟨⟨oL, es, ep, k L oL (Ne.symm z.2.1) hL, r⟩, fun b o q => k b o (fun y => by rw [y, z.2.2] at q; cases q) (F.keep b o q), F.above⟩, fun p hp => ?_⟩
  rcases List.mem_append.mp hp with hp | hp
  · have y := N p (List.mem_append.mpr (.inl hp))
    exact ⟨k _ _ (u1 p hp) y.1, y.2⟩
  · rcases List.mem_cons.mp hp with rfl | hp
    · exact ⟨he, z.2⟩
    · have y := N p (List.mem_append.mpr (.inr (.tail _ hp)))
      exact ⟨k _ _ (u2 p hp) y.1, y.2⟩
theorem xl_init {C e t0 : Addr} {oe : Obj} {c1 c2 c3 c4 c5 : Value} {v : Value} {g : Obj → Led} {Q : Value → Shared → Prop} (F : Fr h₀ L s.heap m) (N : News h₀ L s.heap news) (X₀ : (NzH.hd.heap_39 w.params).In h₀) (hC : C = 45 ∨ C = 57) (U : UpdF e oe news g)
    (hcls : oe.cls = .ref C) (hd : oe.data = .fields #[.ref t0, c1, c2, c3, c4, c5])
    (h : ∀ h' t, Fr h₀ L h' m → News h₀ L h' (g { oe with data := .fields #[.ref t, c1, c2, c3, c4, c5] }) → Q .none { s with heap := h' }) :
    wpAny (model prog w) A (call (.builtin "ValueError.__init__") [.ref e, v]) Q E s := by
  obtain ⟨pre, post, rfl, hg, u1, u2⟩ := U.split
  refine xa_init (X₀.keeps F.keep) hC (N (e, oe) (List.mem_append.mpr (.inr (.head _)))).1 hcls hd fun h' t k he => ?_
  obtain ⟨F', N'⟩ := news_but1 F N u1 u2 k he
  exact h h' t F' (hg _ ▸ N')
theorem xl_set {C e : Addr} {oe : Obj} {vs : Array Value} {v : Value} {g : Obj → Led} {Q : Unit → Shared → Prop} (F : Fr h₀ L s.heap m) (N : News h₀ L s.heap news) (X₀ : (NzH.hd.heap_39 w.params).In h₀) (hC : C = 45 ∨ C = 57) (U : UpdF e oe news g)
    (hcls : oe.cls = .ref C) (hdict : oe.dict = none) (hd : oe.data = .fields vs)
    (h : ∀ h' tk d, Fr h₀ L h' m → News h₀ L h' (g { oe with dict := some d }) → Q () { s with heap := h', toks := tk }) :
    wpAny (model prog w) A (setAttr (.ref e) (Str.ofString "reason") v) Q E s := by
  obtain ⟨pre, post, rfl, hg, u1, u2⟩ := U.split
  refine xa_set (X₀.keeps F.keep) hC (N (e, oe) (List.mem_append.mpr (.inr (.head _)))).1 hcls hdict hd rfl fun h' tk d k he => ?_
  obtain ⟨F', N'⟩ := news_but1 F N u1 u2 k he
  exact h h' tk d F' (hg _ ▸ N')
theorem xl_name {pl : Sem Bool} {Q : Value × List Value → Shared → Prop} (F : Fr h₀ L s.heap m) (X₀ : (NzH.hd.heap_39 w.params).In h₀) (h : Q (.builtin "ValueError.__init__", []) { s with toks := s.toks + 1 }) :
    wpAny (model prog w) A (getMethod (.type "ValueError") (Str.ofString "__init__") pl) Q E s :=
  method_type (K := NzH.hd.heap_39 w.params) (T := "ValueError") (name := Str.ofString "__init__") (v := .builtin "ValueError.__init__") (pl := pl) (Q := Q) F X₀ (by show pure (Value.type _) = _; kernel_rfl) (by decide +kernel) (by kernel_rfl) (by decide +kernel) h
end
/-- a def's call, whatever is around it: the heap at hand bears what g bears -/
theorem kw1_NzX3 : True := by
  k_with "34 getMethod type:ValueError" => k_extra "L72"
  k_with "34 call builtin:ValueError.__init__" => k_extra "L73"
  k_with "34 setAttr ref" => k_extra "L74"
  trivial
theorem def_plain {w : World} {A : Around} {f : Addr} {vs : List Value} {g : Heap} {s : Shared} {news : Led} {Q : Value → Shared → Prop} {E : Value → Shared → Prop} {mean : ExcName → Option Value} {mg mb : Str → Option Value}
    {name qual : Str} {params : Arguments} {body : List Stmt} {scope : Scope} {dV kV doc pm cdv ct oc : Value} {an od : Option Addr} {osl : Array (Option Value)} {binds : List (Str × Value)}
    (ho : (NzH.hd.heap_39 w.params).lookup f = some ⟨oc, od, .func (fnOf name qual params body scope dV kV doc pm an cdv ct), osl⟩) (hcd : codeIn (NzH.hd.heap_39 w.params) cdv qual = true)
    (hbind : ∀ s : Shared, (NzH.hd.heap_39 w.params).In s.heap → BindsTo s (fnOf name qual params body scope dV kV doc pm an cdv ct) ⟨vs, []⟩ binds) (hloc : ∀ y ∈ binds, scope.names.lookup y.1 = some .local)
    (hco : scope.isCoroutine = false) (hgen : scope.isGenerator = false) (hk : scope.kind = .function) (hcell : ∀ x ∈ scope.names, x.2 ≠ .cell)
    (X : (NzH.hd.heap_39 w.params).In g) (T : Top NzH.hd.view_39 (looseW NzH.hd.view_39 [Str.ofString "BoardError", Str.ofString "Super"]) mean mg mb g) (kg : ∀ b o, g.get? b = some o → s.heap.get? b = some o) (hsz : g.objs.size ≤ s.heap.objs.size)
    (N : ∀ p ∈ news, s.heap.get? p.1 = some p.2 ∧ g.get? p.1 = none) (hroom : A.depth < recursionLimit)
    (h : ∀ L h₁, Fr g L h₁ (fun y => binds.reverse.lookup y) → (NzH.hd.heap_39 w.params).In g → News g L h₁ news → Top NzH.hd.view_39 (looseW NzH.hd.view_39 [Str.ofString "BoardError", Str.ofString "Super"]) mean mg mb g →
      wpAny (model PySem.Challenge.rw_nz0212_01.row.prog w) (A.deeper (envOf qual scope L f cdv)) (execs body (envOf qual scope L f cdv)) (fun fl s' => Q (retOf fl) s') (fun _ _ => False) { s with heap := h₁, toks := s.toks + binds.length }) :
    wpAny (model PySem.Challenge.rw_nz0212_01.row.prog w) A (call (.ref f) vs) Q E s := by
  have X' := X.keeps kg
  refine wpAny_call (codeAny_call_def (fd := fnOf name qual params body scope dV kV doc pm an cdv ct) (body := body) (binds := binds) hroom (X' _ _ ho) rfl (T.nolimit.keeps kg) (codeRec_of X' hcd) rfl (hbind s X') hcell hloc (fun h₁ hns hk₁ => ?_) hco hgen hk)
  have F : Fr g s.heap.objs.size h₁ (fun y => binds.reverse.lookup y) := ⟨hns, fun b o e => hk₁ b o (kg b o e), hsz⟩
  refine wpAny_mono (h _ h₁ F X (fun p hp => ⟨hk₁ _ _ (N p hp).1, Nat.ne_of_lt (Heap.lt_size (N p hp).1), (N p hp).2⟩) T) (fun fl s' q => ?_) fun _ _ q => q.elim
  cases fl <;> exact q
theorem kw2_NzX3 : True := by
  k_with "34 nz enterP" => k_extra "L75"
  trivial
theorem x_call29 {w : World} {A : Around} {C e t0 : Addr} {x : Str} {tx : Tok} {s : Shared} {g : Heap} {mean : ExcName → Option Value} {mg mb : Str → Option Value} {Q E : Value → Shared → Prop} (hC : C = 45 ∨ C = 57) (X : (NzH.hd.heap_39 w.params).In g)
    (T : Top NzH.hd.view_39 (looseW NzH.hd.view_39 [Str.ofString "BoardError", Str.ofString "Super"]) mean mg mb g) (kg : ∀ b o, g.get? b = some o → s.heap.get? b = some o) (hsz : g.objs.size ≤ s.heap.objs.size) (N : ∀ p ∈ [(e, rawExc C t0)], s.heap.get? p.1 = some p.2 ∧ g.get? p.1 = none) (hroom : A.depth < recursionLimit)
    (h : ∀ L h' tk t oe m, Fr g L h' m → News g L h' [(e, oe)] → oe.cls = .ref C → oe.data = .fields #[.ref t, .none, .none, .none, .bool false, .none] → Q .none { s with heap := h', toks := tk }) :
    wpAny (model PySem.Challenge.rw_nz0212_01.row.prog w) A (call (.ref 29) [.ref e, .str x tx]) Q E s := by
  walk_at "nz enterP"
  k_fill
  intro L h₁ F X1 N1 T1
  k_fold
  k_steps
  exact h _ _ _ _ _ _ (by assumption) (by assumption) rfl rfl
end
section
theorem off_NzX4 : True := by
  w_top off
  trivial
open PySem PySem.W PySem.Calls PyProof.Rows
section
variable {w : World} {A : Around} {s : Shared} {g : Heap} {L : Addr} {m : Str → Option Value} {news : Led} {mean : ExcName → Option Value} {mg mb : Str → Option Value} {Q E : Value → Shared → Prop}
theorem x_exc {C : Addr} {x : Str} {tx : Tok} (hC : C = 45 ∨ C = 57) (F : Fr g L s.heap m) (X : (NzH.hd.heap_39 w.params).In g) (N : News g L s.heap news)
    (T : Top NzH.hd.view_39 (looseW NzH.hd.view_39 [Str.ofString "BoardError", Str.ofString "Super"]) mean mg mb g) (hroom : A.depth + 5 < recursionLimit)
    (h : ∀ e oe t h' tk, Fr g L h' m → News g L h' ((e, oe) :: news) → (∀ p ∈ news, p.1 < e) → oe.cls = .ref C → oe.data = .fields #[.ref t, .none, .none, .none, .bool false, .none] → Q (.ref e) { s with heap := h', toks := tk }) :
    wpAny (model PySem.Challenge.rw_nz0212_01.row.prog w) A (call (.ref C) [.str x tx]) Q E s := by
  have hw : (Code.builtin "type.__call__" ⟨[.ref C, .str x tx], []⟩).weight ≤ 5 := Nat.le_of_ble_eq_true rfl
  refine x_make (X.keeps F.keep) hC fun h₁ e t k hle he => ?_
  have hlt : e < h₁.objs.size := Heap.lt_size he
  refine x_call29 (g := s.heap) (s := { s with heap := h₁ }) (t0 := t) hC (X.keeps F.keep) (T.keeps F.keep) k (by show s.heap.objs.size ≤ h₁.objs.size; omega) (fun p hp => ?_) (by show A.depth + (Code.builtin "type.__call__" ⟨[.ref C, .str x tx], []⟩).weight < recursionLimit; omega) fun L' h' tk t' oe m' F' N' hc hd => ?_
  · rw [List.mem_singleton.mp hp]
    exact ⟨he, Heap.get?_none_of_le hle⟩
  · refine ⟨rfl, h e oe t' h' tk (F.keeps F'.keep) (fun p hp => ?_) (fun p hp => Nat.lt_of_lt_of_le (Heap.lt_size (N p hp).1) hle) hc hd⟩
    rcases List.mem_cons.mp hp with rfl | hp
    · have z := (N' _ (.head _)).1
      refine ⟨z, fun q => ?_, ?_⟩
      · have y : L < s.heap.objs.size := by obtain ⟨o, _, _, ho, _⟩ := F.ns; exact Heap.lt_size ho
        exact absurd y (Nat.not_lt.mpr (show s.heap.objs.size ≤ L from (show e = L from q) ▸ hle))
      · cases q : g.get? e with
        | none => rfl
        | some o => exact absurd (Heap.lt_size (F.keep _ _ q)) (Nat.not_lt.mpr hle)
    · exact ⟨F'.keep _ _ (N p hp).1, (N p hp).2⟩
end
end
section
theorem off_NzY1 : True := by
  w_top off
  trivial
open PySem PySem.W PySem.Calls PyProof.Rows PySem.Builtin
abbrev fsOf (l : List Env) : List Addr := l.filterMap (·.frame)
/-- an exception that flies: its trace is at T, its context c2 -/
def FlyO (C T : Addr) (c2 : Value) (oe : Obj) : Prop := oe.cls = .ref C ∧ ∃ a0 c3 c4 c5, oe.data = .fields #[a0, .ref T, c2, c3, c4, c5]
def RawO (C : Addr) (c2 : Value) (oe : Obj) : Prop := oe.cls = .ref C ∧ ∃ a0 c3 c4 c5, oe.data = .fields #[a0, .none, c2, c3, c4, c5]
def TrcO (fl : Value) (oT : Obj) : Prop := ∃ ts, oT.data = .fields ts ∧ ts[3]? = some fl
/-- one heap behind another: e apart, frames in their slots alone -/
def Spun (fs : List Addr) (e : Addr) (h h' : Heap) : Prop := ∀ b o, b ≠ e → h.get? b = some o → (b ∉ fs → h'.get? b = some o) ∧ ∃ sl, h'.get? b = some { o with slots := sl }
theorem Spun.trans {fs : List Addr} {e : Addr} {a b c : Heap} (x : Spun fs e a b) (y : Spun fs e b c) : Spun fs e a c := fun p o hp ho => by
  obtain ⟨x1, sl, x2⟩ := x p o hp ho
  refine ⟨fun hn => (y p o hp (x1 hn)).1 hn, ?_⟩
  obtain ⟨_, sl', y2⟩ := y p _ hp x2
  exact ⟨sl', y2⟩
theorem Spun.mono {fs gs : List Addr} {e : Addr} {a b : Heap} (x : Spun fs e a b) (h : ∀ p ∈ fs, p ∈ gs) : Spun gs e a b := fun p o hp ho =>
  ⟨fun hn => (x p o hp ho).1 fun q => hn (h p q), (x p o hp ho).2⟩
section
variable {M : Model} {A : Around} {E : Value → Shared → Prop} {s : Shared} {env : Env} {outer : List Env} {L e T C : Addr} {base : Heap} {oe oT : Obj} {c2 fl : Value} {Q : Unit → Shared → Prop}
theorem frames_off (hl : s.heap.FunFrames base outer) (he : s.heap.get? e = some oe) {vs : Array Value} (hd : oe.data = .fields vs) : e ∉ fsOf outer := fun hm => by
  obtain ⟨_, o, ho, hnf⟩ := hl.mem hm
  rw [he] at ho; cases ho
  exact hnf vs hd
/-- the new entry of a trace -/
theorem new_entry {head : Value} {hn : Bool} {a0 c3 c4 c5 c1 : Value} (hfr : A.frames = some (env :: outer)) (hl : s.heap.FunFrames base (env :: outer)) (hf : env.frame = some L) (he : s.heap.get? e = some oe) (hc : oe.cls = .ref C) (hd : oe.data = .fields #[a0, c1, c2, c3, c4, c5])
    (h : ∀ h' T oT oe', Spun (fsOf (env :: outer)) e s.heap h' → h'.get? e = some oe' → FlyO C T c2 oe' → s.heap.objs.size ≤ T → h'.get? T = some oT → TrcO (rawInt L) oT → Q () { s with heap := h' }) :
    wpAny M A (do let f ← frameOf env; let pl ← entryPlaceOf L hn; setField (.ref e) 1 (← EntryCells.newEntry head f .none (rawInt L) .none pl)) Q E s := by
  have off := frames_off hl he hd
  refine wpAny_bind (wpAny_frameOf_fun hfr hl hf fun h₁ hs => ?_)
  refine wpAny_bind (wpAny_entryPlaceOf fun pl hpl => ?_)
  unfold EntryCells.newEntry newFields
  refine wpAny_bind (wpAny_newObj_type ?_ (hpl.sizeOk5 _ _ _ _ _))
  have he₁ : h₁.get? e = some oe := (hs.2.1 e off).trans he
  have he₂ := Heap.get?_push_of_some (h := h₁) { cls := .type "traceback", dict := none, data := .fields ([head, .ref L, .none, rawInt L, .none] ++ (if pl.isEmpty then List.replicate 6 Value.none else pl)).toArray } he₁
  have hT := Heap.get?_push_size h₁ (o := { cls := .type "traceback", dict := none, data := .fields ([head, .ref L, .none, rawInt L, .none] ++ (if pl.isEmpty then List.replicate 6 Value.none else pl)).toArray }) rfl
  have hTe : h₁.objs.size ≠ e := Nat.ne_of_gt (Heap.lt_size he₁)
  have hd₃ := Obj.data_mapFields hd (·.setIfInBounds 1 (Value.ref h₁.objs.size))
  refine wpAny_setField he₂ hd (by simp) (h _ h₁.objs.size _ _ (fun b o hb ho => ?_) (Heap.get?_update_self _ he₂ (Obj.isFreed_of_fields hd₃)) ?_ (Nat.le_of_eq hs.1.symm) ((Heap.get?_update_other _ _ (Ne.symm hTe)).trans hT) ⟨_, rfl, ?_⟩)
  · obtain ⟨sl, hsl⟩ := hs.2.2 b o ho
    refine ⟨fun hn => ?_, sl, ?_⟩
    · rw [Heap.get?_update_other _ _ (Ne.symm hb)]
      exact Heap.get?_push_of_some _ ((hs.2.1 b hn).trans ho)
    · rw [Heap.get?_update_other _ _ (Ne.symm hb)]
      exact Heap.get?_push_of_some _ hsl
  · exact ⟨(Obj.cls_mapFields _ _).trans hc, a0, c3, c4, c5, hd₃⟩
  · rcases hpl with rfl | ⟨_, _, _, _, _, _, _, rfl⟩ <;> simp
/-- the first note -/
theorem note_first (hfr : A.frames = some (env :: outer)) (hl : s.heap.FunFrames base (env :: outer)) (hf : env.frame = some L) (he : s.heap.get? e = some oe) (hR : RawO C c2 oe)
    (h : ∀ h' T oT oe', Spun (fsOf (env :: outer)) e s.heap h' → h'.get? e = some oe' → FlyO C T c2 oe' → s.heap.objs.size ≤ T → h'.get? T = some oT → TrcO (rawInt L) oT → Q () { s with heap := h' }) :
    wpAny M A (noteFrame (.ref e) env) Q E s := by
  obtain ⟨hc, a0, c3, c4, c5, hd⟩ := hR
  unfold noteFrame
  simp only [hf]
  refine wpAny_bind (wpAny_field he hd (x := .none) rfl ?_)
  rw [if_neg (by decide)]
  exact new_entry hfr hl hf he hc hd h
/-- a later frame's note -/
theorem note_next (hfr : A.frames = some (env :: outer)) (hl : s.heap.FunFrames base (env :: outer)) (hf : env.frame = some L) (he : s.heap.get? e = some oe) (hR : FlyO C T c2 oe) (hT : s.heap.get? T = some oT) (hTr : TrcO .none oT) (hTe : T ≠ e)
    (h : ∀ h' T' oT' oe', Spun (fsOf (env :: outer)) e (s.heap.update T (Obj.mapFields (·.setIfInBounds 3 Value.none))) h' → h'.get? e = some oe' → FlyO C T' c2 oe' → s.heap.objs.size ≤ T' → h'.get? T' = some oT' → TrcO (rawInt L) oT' → Q () { s with heap := h' }) :
    wpAny M A (noteFrame (.ref e) env) Q E s := by
  obtain ⟨hc, a0, c3, c4, c5, hd⟩ := hR
  obtain ⟨ts, hdT, h3⟩ := hTr
  unfold noteFrame
  simp only [hf]
  refine wpAny_bind (wpAny_field he hd (x := .ref T) rfl ?_)
  rw [if_pos (show (Value.ref T != Value.none) = true from by simp)]
  refine wpAny_bind (wpAny_field hT hdT h3 ?_)
  rw [if_neg (show ¬ ((Value.none == rawInt L) = true) from by simp [rawInt])]
  refine wpAny_bind (wpAny_setField hT hdT (Array.getElem?_eq_some_iff.mp h3).1 ?_)
  have other : ∀ b, b ≠ T → (s.heap.update T (Obj.mapFields (·.setIfInBounds 3 Value.none))).get? b = s.heap.get? b := fun b hb => Heap.get?_update_other _ _ (Ne.symm hb)
  have hl' : (s.heap.update T (Obj.mapFields (·.setIfInBounds 3 Value.none))).FunFrames base (env :: outer) := hl.of_keeps fun b o hb hnf => ⟨o, (other b fun q => by rw [q, hT] at hb; cases hb; exact hnf ts hdT).trans hb, rfl⟩
  have hz : (s.heap.update T (Obj.mapFields (·.setIfInBounds 3 Value.none))).objs.size = s.heap.objs.size := Heap.size_after_update ..
  exact new_entry (s := { s with heap := s.heap.update T (Obj.mapFields (·.setIfInBounds 3 Value.none)) }) hfr hl' hf ((other e (Ne.symm hTe)).trans he) hc hd fun h' T' oT' oe' x1 x2 x3 x4 x5 x6 => h h' T' oT' oe' x1 x2 x3 (hz ▸ x4) x5 x6
theorem note_again (hf : env.frame = some L) (he : s.heap.get? e = some oe) (hR : FlyO C T c2 oe) (hT : s.heap.get? T = some oT) (hTr : TrcO (rawInt L) oT) (h : Q () s) : wpAny M A (noteFrame (.ref e) env) Q E s := by
  obtain ⟨hc, a0, c3, c4, c5, hd⟩ := hR
  obtain ⟨ts, hdT, h3⟩ := hTr
  unfold noteFrame
  simp only [hf]
  refine wpAny_bind (wpAny_field he hd (x := .ref T) rfl ?_)
  rw [if_pos (show (Value.ref T != Value.none) = true from by simp)]
  refine wpAny_bind (wpAny_field hT hdT h3 ?_)
  rw [if_pos (show (rawInt L == rawInt L) = true from by simp)]
  exact wpAny_pure h
theorem set_flight {x : Option Addr} (he : s.heap.get? e = some oe) (hR : FlyO C T c2 oe) (hT : s.heap.get? T = some oT) (hTr : TrcO fl oT)
    (h : ∀ oT', (s.heap.update T (Obj.mapFields (·.setIfInBounds 3 (x.elim Value.none fun f => rawInt f)))).get? T = some oT' → TrcO (x.elim .none fun f => rawInt f) oT' → Q () { s with heap := s.heap.update T (Obj.mapFields (·.setIfInBounds 3 (x.elim Value.none fun f => rawInt f))) }) :
    wpAny M A (setFlight (.ref e) x) Q E s := by
  obtain ⟨hc, a0, c3, c4, c5, hd⟩ := hR
  obtain ⟨ts, hdT, h3⟩ := hTr
  have hsz : 3 < ts.size := (Array.getElem?_eq_some_iff.mp h3).1
  unfold setFlight
  refine wpAny_bind (wpAny_field he hd (x := .ref T) rfl ?_)
  rw [if_pos (show (Value.ref T != Value.none) = true from by simp)]
  refine wpAny_setField hT hdT hsz (h _ (Heap.get?_update_self _ hT (Obj.isFreed_of_fields (Obj.data_mapFields hdT _))) ⟨_, Obj.data_mapFields hdT _, by simp [hsz]⟩)
end
end
section
theorem off_NzY2 : True := by
  w_top off
  trivial
open PySem PySem.W PySem.Calls PyProof.Rows PySem.Builtin
abbrev TopN (mean : ExcName → Option Value) (mg mb : Str → Option Value) (h : Heap) : Prop := Top NzH.hd.view_39 (looseW NzH.hd.view_39 [Str.ofString "BoardError", Str.ofString "Super"]) mean mg mb h
/-- what stands below a frame, behind something that may have noted the frames -/
structure Turned (w : World) (A₀ : Around) (base : Heap) (outer : List Env) (mean : ExcName → Option Value) (mg mb : Str → Option Value) (h₀ h₁ : Heap) : Prop where
  turn : KtsTurn (fsOf outer) h₀ h₁
  below : Below A₀ base outer h₁
  inn : (NzH.hd.heap_39 w.params).In h₁
  top : TopN mean mg mb h₁
  dicts : KtsDicts (fsOf outer) h₁
section
variable {w : World} {A₀ A : Around} {base h₀ h₁ g g' : Heap} {outer : List Env} {env : Env} {L L' : Addr} {m m' : Str → Option Value} {mean : ExcName → Option Value} {mg mb : Str → Option Value} {news news' : Led} {h h' : Heap}
theorem turned_of (B : Below A₀ base outer h₀) (XB : (NzH.hd.heap_39 w.params).In base) (TB : TopN mean mg mb base) (D : KtsDicts (fsOf outer) h₀) (T : KtsTurn (fsOf outer) h₀ h₁) : Turned w A₀ base outer mean mg mb h₀ h₁ := by
  have st : base.StaysIn h₁ := fun b o e => T.other b o (B.stays b o e) fun hm => by rw [(B.frames.mem hm).1] at e; cases e
  exact ⟨T, ⟨B.stack, st, B.frames.of_keeps fun b o e _ => let ⟨sl, hs⟩ := T.up e; ⟨_, hs, rfl⟩⟩, XB.keeps st, TB.keeps st, D.turn T⟩
theorem turned_refl (B : Below A₀ base outer h₀) (X : (NzH.hd.heap_39 w.params).In h₀) (T : TopN mean mg mb h₀) (D : KtsDicts (fsOf outer) h₀) : Turned w A₀ base outer mean mg mb h₀ h₀ := ⟨.refl, B, X, T, D⟩
theorem Turned.trans (x : Turned w A₀ base outer mean mg mb h₀ g) (y : Turned w A₀ base outer mean mg mb g h₁) : Turned w A₀ base outer mean mg mb h₀ h₁ := ⟨x.turn.trans y.turn, y.below, y.inn, y.top, y.dicts⟩
/-- a heap behind one whose frames below have been noted: the caller's view of it -/
theorem view_back (B : Below A₀ base outer h₀) (XB : (NzH.hd.heap_39 w.params).In base) (TB : TopN mean mg mb base) (D : KtsDicts (fsOf outer) h₀) (FG : Fr h₀ L g m) (hf : env.frame = some L)
    (k : ∀ b o, g.get? b = some o → (b ∉ fsOf (env :: outer) → h'.get? b = some o) ∧ ∃ sl, h'.get? b = some { o with slots := sl })
    (N : ∀ p ∈ news', h'.get? p.1 = some p.2 ∧ g.get? p.1 = none) : ∃ h₁, Turned w A₀ base outer mean mg mb h₀ h₁ ∧ Fr h₁ L h' m ∧ News h₁ L h' news' := by
  have nL : h₀.get? L = none := kts_self FG
  have inL : L ∈ fsOf (env :: outer) := by simp [fsOf, hf]
  obtain ⟨T, S⟩ := kts_turn_at (h := h') (fs := fsOf outer) (g := h₀)
    (fun b hb => let ⟨_, o, ho, _⟩ := B.frames.mem hb; ⟨o, ho⟩)
    (fun b o e nm => (k b o (FG.keep b o e)).1 fun hm => by
      rcases List.mem_filterMap.mp hm with ⟨ev, hev, hef⟩
      rcases List.mem_cons.mp hev with rfl | hev
      · rw [hf] at hef; cases hef; rw [nL] at e; cases e
      · exact nm (List.mem_filterMap.mpr ⟨ev, hev, hef⟩))
    (fun b o e _ => (k b o (FG.keep b o e)).2)
  obtain ⟨oL, es, ep, hL, hLd, hLk, hLf⟩ := FG.ns
  obtain ⟨_, sl, hs⟩ := k L oL hL
  refine ⟨_, turned_of B XB TB D T, ⟨⟨_, es, ep, hs, hLd, hLk, hLf⟩, S, by rw [T.size]; exact FG.above⟩, fun p hp => ⟨(N p hp).1, fun q => ?_, T.none_ _ ?_⟩⟩
  · have := (N p hp).2; rw [q, hL] at this; cases this
  · cases q : h₀.get? p.1 with
    | none => rfl
    | some o => have := (N p hp).2; rw [FG.keep _ _ q] at this; cases this
end
/-- an exception has left a frame -/
def LeftX (g : Heap) (l : List Env) (news : Led) (Exc : Addr → Value → Prop) (s : Shared) (ev : Value) (s' : Shared) : Prop :=
  ∃ C c2 e oe T oT, ev = .ref e ∧ Exc C c2 ∧ FlyO C T c2 oe ∧ TrcO .none oT ∧ e ≠ T ∧ (∀ b o, g.get? b = some o → (b ∉ fsOf l → s'.heap.get? b = some o) ∧ ∃ sl, s'.heap.get? b = some { o with slots := sl }) ∧
    (∀ p ∈ (e, oe) :: (T, oT) :: news, s'.heap.get? p.1 = some p.2 ∧ g.get? p.1 = none) ∧ (∀ p ∈ news, p.1 ≠ e ∧ p.1 ≠ T) ∧ s'.gens = s.gens ∧ s'.drawn = s.drawn ∧ s'.os = s.os
/-- a def's body raises: its frame's note comes next -/
def RaiX (M : Model) (A : Around) (env : Env) (g : Heap) (l : List Env) (news : Led) (Exc : Addr → Value → Prop) (s : Shared) (ev : Value) (s' : Shared) : Prop :=
  wpAny M A (leaving env ev) (fun _ s'' => LeftX g l news Exc s ev s'') (fun _ _ => False) s'
section
variable {w : World} {M : Model} {A : Around} {base g g₁ : Heap} {env envC : Env} {outer : List Env} {L' e C T : Addr} {m' : Str → Option Value} {mean : ExcName → Option Value} {mg mb : Str → Option Value} {news led : Led} {s s' : Shared} {oe oT : Obj} {c2 : Value} {Exc : Addr → Value → Prop}
theorem rai_raw (Tn : Turned w A base (env :: outer) mean mg mb g g₁) (F : Fr g₁ L' s'.heap m') (N : News g₁ L' s'.heap ((e, oe) :: led)) (hs : ∀ p ∈ news, p ∈ led) (hne : ∀ p ∈ led, p.1 ≠ e) (hR : RawO C c2 oe) (hX : Exc C c2)
    (S1 : s'.gens = s.gens) (S2 : s'.drawn = s.drawn) (S3 : s'.os = s.os) (hf : envC.frame = some L') (hk : envC.scope.kind = .function) : RaiX M (A.deeper envC) envC g (env :: outer) news Exc s (.ref e) s' := by
  have B' := pushX Tn.below F hf hk
  have he := (N _ (.head _)).1
  have nL : g.get? L' = none := kts_none (fun b o q => q) (by
    cases q : g.get? L' with
    | none => rfl
    | some o => obtain ⟨sl, hs⟩ := Tn.turn.up q; rw [kts_self F] at hs; cases hs)
  unfold RaiX leaving
  refine wpAny_bind (note_first B'.stack B'.frames hf he hR fun h₁ T oT oe' sp he₁ hF hTz hT hTr => ?_)
  refine set_flight (s := { s' with heap := h₁ }) (x := none) he₁ hF hT hTr fun oT' hT' hTr' => ?_
  have eT : e ≠ T := fun q => by have := Heap.lt_size he; rw [q] at this; exact absurd this (Nat.not_lt.mpr hTz)
  have other : ∀ b, b ≠ T → (h₁.update T (Obj.mapFields (·.setIfInBounds 3 ((none : Option Addr).elim Value.none fun f => rawInt f)))).get? b = h₁.get? b := fun b hb => Heap.get?_update_other _ _ (Ne.symm hb)
  have ltT : ∀ {b o}, s'.heap.get? b = some o → b ≠ T := fun q z => by have := Heap.lt_size q; rw [z] at this; exact absurd this (Nat.not_lt.mpr hTz)
  have eg : g.get? e = none := by
    cases q : g.get? e with
    | none => rfl
    | some o => obtain ⟨sl, hs⟩ := Tn.turn.up q; rw [(N _ (.head _)).2.2] at hs; cases hs
  refine ⟨C, c2, e, oe', T, oT', rfl, hX, hF, hTr', eT, fun b o q => ?_, fun p hp => ?_, fun p hp => ⟨hne p (hs p hp), ltT (N p (.tail _ (hs p hp))).1⟩, S1, S2, S3⟩
  · obtain ⟨sl, up⟩ := Tn.turn.up q
    have be : b ≠ e := fun z => by rw [z, eg] at q; cases q
    have q' := F.keep _ _ up
    obtain ⟨x1, sl', x2⟩ := sp b _ be q'
    refine ⟨fun hn => ?_, sl', (other b (ltT q')).trans x2⟩
    have same := Tn.turn.other b o q hn
    rw [same] at up
    have q'' := F.keep _ _ same
    refine (other b (ltT q'')).trans ((sp b o be q'').1 fun hm => ?_)
    rcases List.mem_filterMap.mp hm with ⟨ev, hev, hef⟩
    rcases List.mem_cons.mp hev with rfl | hev
    · rw [hf] at hef; cases hef; rw [nL] at q; cases q
    · exact hn (List.mem_filterMap.mpr ⟨ev, hev, hef⟩)
  · have gone : ∀ {b}, g₁.get? b = none → g.get? b = none := fun {b} z => by
      cases q : g.get? b with
      | none => rfl
      | some o => obtain ⟨sl, hs⟩ := Tn.turn.up q; rw [z] at hs; cases hs
    rcases List.mem_cons.mp hp with rfl | hp
    · exact ⟨(other e eT).trans he₁, eg⟩
    · rcases List.mem_cons.mp hp with rfl | hp
      · refine ⟨hT', ?_⟩
        cases q : g.get? T with
        | none => rfl
        | some o => obtain ⟨sl, up⟩ := Tn.turn.up q; exact absurd rfl (ltT (F.keep _ _ up))
      · have z := N p (.tail _ (hs p hp))
        obtain ⟨x1, _, _⟩ := sp p.1 p.2 (hne p (hs p hp)) z.1
        refine ⟨(other _ (ltT z.1)).trans (x1 fun hm => ?_), gone z.2.2⟩
        obtain ⟨_, o, ho, _⟩ := B'.frames.mem hm
        rcases List.mem_filterMap.mp hm with ⟨ev, hev, hef⟩
        rcases List.mem_cons.mp hev with rfl | hev
        · rw [hf] at hef; exact z.2.1 (Option.some.inj hef).symm
        · obtain ⟨o', ho', _⟩ := (Tn.below.frames.mem (List.mem_filterMap.mpr ⟨ev, hev, hef⟩)).2
          rw [z.2.2] at ho'; cases ho'
end
end
section
theorem off_NzY3 : True := by
  w_top off
  trivial
open PySem PySem.W PySem.Calls PyProof.Rows PySem.Builtin
section
variable {w : World} {M : Model} {A : Around} {base g g₁ : Heap} {env envC : Env} {outer : List Env} {L' e C T : Addr} {m' : Str → Option Value} {mean : ExcName → Option Value} {mg mb : Str → Option Value} {news led : Led} {s s' : Shared} {oe oT : Obj} {c2 : Value} {Exc : Addr → Value → Prop}
/-- raised in a handler's suite: it is noted already -/
theorem rai_noted (Tn : Turned w A base (env :: outer) mean mg mb g g₁) (F : Fr g₁ L' s'.heap m') (N : News g₁ L' s'.heap ((e, oe) :: (T, oT) :: led)) (hs : ∀ p ∈ news, p ∈ led) (hne : ∀ p ∈ news, p.1 ≠ e ∧ p.1 ≠ T) (hR : FlyO C T c2 oe) (hTr : TrcO (rawInt L') oT) (eT : e ≠ T) (hX : Exc C c2)
    (S1 : s'.gens = s.gens) (S2 : s'.drawn = s.drawn) (S3 : s'.os = s.os) (hf : envC.frame = some L') : RaiX M (A.deeper envC) envC g (env :: outer) news Exc s (.ref e) s' := by
  have he := (N _ (.head _)).1
  have hT := (N (T, oT) (.tail _ (.head _))).1
  unfold RaiX leaving
  refine wpAny_bind (note_again hf he hR hT hTr ?_)
  refine set_flight (x := none) he hR hT hTr fun oT' hT' hTr' => ?_
  have other : ∀ b, b ≠ T → (s'.heap.update T (Obj.mapFields (·.setIfInBounds 3 ((none : Option Addr).elim Value.none fun f => rawInt f)))).get? b = s'.heap.get? b := fun b hb => Heap.get?_update_other _ _ (Ne.symm hb)
  have gone : ∀ {b}, g₁.get? b = none → g.get? b = none := fun {b} z => by
    cases q : g.get? b with
    | none => rfl
    | some o => obtain ⟨sl, hs⟩ := Tn.turn.up q; rw [z] at hs; cases hs
  have nT := gone (N (T, oT) (.tail _ (.head _))).2.2
  refine ⟨C, c2, e, oe, T, oT', rfl, hX, hR, hTr', eT, fun b o q => ?_, fun p hp => ?_, hne, S1, S2, S3⟩
  · have bT : b ≠ T := fun z => by rw [z, nT] at q; cases q
    obtain ⟨sl, up⟩ := Tn.turn.up q
    exact ⟨fun hn => (other b bT).trans (F.keep _ _ (Tn.turn.other b o q hn)), sl, (other b bT).trans (F.keep _ _ up)⟩
  · rcases List.mem_cons.mp hp with rfl | hp
    · exact ⟨(other e eT).trans he, gone (N _ (.head _)).2.2⟩
    · rcases List.mem_cons.mp hp with rfl | hp
      · exact ⟨hT', nT⟩
      · have z := N p (.tail _ (.tail _ (hs p hp)))
        exact ⟨(other _ (hne p hp).2).trans z.1, gone z.2.2⟩
end
/-- what a call does that may raise or catch -/
def CtrX (w : World) (f : Value) (vs : List Value) (d u : Nat) (news keep : Led) (Post : Value → Led → Prop) (Exc : Addr → Value → Prop) : Prop :=
  ∀ (mean : ExcName → Option Value) (mg mb : Str → Option Value) (dp un : Nat) (gd : Option (List Code)) (A₀ : Around) (env : Env) (outer : List Env) (base h₀ : Heap) (L : Addr) (m : Str → Option Value) (s : Shared) (Q E : Value → Shared → Prop),
    Below A₀ base outer h₀ → Fr h₀ L s.heap m → (NzH.hd.heap_39 w.params).In h₀ → News h₀ L s.heap news → TopN mean mg mb h₀ → (NzH.hd.heap_39 w.params).In base → TopN mean mg mb base → KtsDicts (fsOf outer) h₀ →
    env.frame = some L → env.scope.kind = .function → dp + d < recursionLimit → un + u < cLine →
    (∀ r news' h₁ h' tk, Post r news' → Turned w A₀ base outer mean mg mb h₀ h₁ → Fr h₁ L h' m → News h₁ L h' news' → Q r { s with heap := h', toks := tk }) →
    (∀ C c2 e oe T oT h₁ h' tk, Exc C c2 → Turned w A₀ base outer mean mg mb h₀ h₁ → Fr h₁ L h' m → News h₁ L h' ((e, oe) :: (T, oT) :: keep) → FlyO C T c2 oe → TrcO .none oT → e ≠ T → (∀ p ∈ keep, p.1 ≠ e ∧ p.1 ≠ T) → E (.ref e) { s with heap := h', toks := tk }) →
    codeAny (model PySem.Challenge.rw_nz0212_01.row.prog w) (arK dp un gd env outer) (.call f ⟨vs, []⟩) (fun r s' => match r with | .ok (.ret v) => Q v s' | .ok _ => False | .error e => E e s') s
def EndX (w : World) (A : Around) (base : Heap) (l : List Env) (mean : ExcName → Option Value) (mg mb : Str → Option Value) (Post : Value → Led → Prop) (g : Heap) (L : Addr) (s : Shared) (fl : Flow) (s' : Shared) : Prop :=
  ∃ g' m' news', Turned w A base l mean mg mb g g' ∧ Fr g' L s'.heap m' ∧ News g' L s'.heap news' ∧ Post (retOf fl) news' ∧ s'.gens = s.gens ∧ s'.drawn = s.drawn ∧ s'.os = s.os
theorem endX_of {w : World} {A : Around} {base : Heap} {l : List Env} {mean : ExcName → Option Value} {mg mb : Str → Option Value} {Post : Value → Led → Prop} {g g' : Heap} {L : Addr} {s : Shared} {fl : Flow} {s' : Shared} {m' : Str → Option Value} {led' : Led}
    (F : Fr g' L s'.heap m') (Tn : Turned w A base l mean mg mb g g') (P : Post (retOf fl) led') (N : News g' L s'.heap led') (S1 : s'.gens = s.gens) (S2 : s'.drawn = s.drawn) (S3 : s'.os = s.os) : EndX w A base l mean mg mb Post g L s fl s' :=
  ⟨g', m', led', Tn, F, N, P, S1, S2, S3⟩
section
variable {w : World} {f : Addr} {vs : List Value} {d u : Nat} {news keep : Led} {Post : Value → Led → Prop} {Exc : Addr → Value → Prop}
  {name qual : Str} {params : Arguments} {body : List Stmt} {scope : Scope} {dV kV doc pm cdv ct oc : Value} {an od : Option Addr} {osl : Array (Option Value)} {binds : List (Str × Value)}
/-- the ground of a call, its frames' dicts -/
theorem ground_dicts {h₀ g : Heap} {L : Addr} {m : Str → Option Value} {env : Env} {outer : List Env} (FG : Fr h₀ L g m) (D : KtsDicts (fsOf outer) h₀) (hf : env.frame = some L) : KtsDicts (fsOf (env :: outer)) g := fun b hb => by
  rcases List.mem_filterMap.mp hb with ⟨ev, hev, hef⟩
  rcases List.mem_cons.mp hev with rfl | hev
  · rw [hf] at hef; cases hef
    obtain ⟨oL, es, ep, hL, hLd, _⟩ := FG.ns
    exact ⟨oL, es, ep, hL, hLd⟩
  · obtain ⟨o, es, n, ho, hd⟩ := D b (List.mem_filterMap.mpr ⟨ev, hev, hef⟩)
    exact ⟨o, es, n, FG.keep _ _ ho, hd⟩
/-- the two ends of a call, seen from the caller -/
theorem ends_ok {A₀ : Around} {A : Around} {base h₀ g : Heap} {outer : List Env} {env : Env} {L L' : Addr} {m : Str → Option Value} {mean : ExcName → Option Value} {mg mb : Str → Option Value} {s s₁ s' : Shared} {Q : Value → Shared → Prop} {fl : Flow}
    (B : Below A₀ base outer h₀) (XB : (NzH.hd.heap_39 w.params).In base) (TB : TopN mean mg mb base) (D : KtsDicts (fsOf outer) h₀) (FG : Fr h₀ L g m) (hf : env.frame = some L)
    (hQ : ∀ r news' h₁ h' tk, Post r news' → Turned w A₀ base outer mean mg mb h₀ h₁ → Fr h₁ L h' m → News h₁ L h' news' → Q r { s with heap := h', toks := tk })
    (e1 : s₁.gens = s.gens) (e2 : s₁.drawn = s.drawn) (e3 : s₁.os = s.os) (e : EndX w A base (env :: outer) mean mg mb Post g L' s₁ fl s') : Q (retOf fl) s' := by
  obtain ⟨g', m', news', Tn, F', N', hP, x1, x2, x3⟩ := e
  obtain ⟨h₁, Tn1, F1, N1⟩ := view_back (h' := s'.heap) (news' := news') B XB TB D FG hf (fun b o q => by
    obtain ⟨sl, up⟩ := Tn.turn.up q
    exact ⟨fun hn => F'.keep _ _ (Tn.turn.other b o q hn), sl, F'.keep _ _ up⟩) (fun p hp => ⟨(N' p hp).1, by
    cases q : g.get? p.1 with
    | none => rfl
    | some o => obtain ⟨sl, hs⟩ := Tn.turn.up q; rw [(N' p hp).2.2] at hs; cases hs⟩)
  obtain ⟨hp, ge, dr, tk, os⟩ := s'
  dsimp only at x1 x2 x3 F1 N1
  rw [x1, x2, x3, e1, e2, e3]
  exact hQ _ _ _ _ tk hP Tn1 F1 N1
theorem ends_ex {A₀ : Around} {base h₀ g : Heap} {outer : List Env} {env : Env} {L : Addr} {m : Str → Option Value} {mean : ExcName → Option Value} {mg mb : Str → Option Value} {s s₁ s' : Shared} {E : Value → Shared → Prop} {ev : Value}
    (B : Below A₀ base outer h₀) (XB : (NzH.hd.heap_39 w.params).In base) (TB : TopN mean mg mb base) (D : KtsDicts (fsOf outer) h₀) (FG : Fr h₀ L g m) (hf : env.frame = some L)
    (hE : ∀ C c2 e oe T oT h₁ h' tk, Exc C c2 → Turned w A₀ base outer mean mg mb h₀ h₁ → Fr h₁ L h' m → News h₁ L h' ((e, oe) :: (T, oT) :: keep) → FlyO C T c2 oe → TrcO .none oT → e ≠ T → (∀ p ∈ keep, p.1 ≠ e ∧ p.1 ≠ T) → E (.ref e) { s with heap := h', toks := tk })
    (e1 : s₁.gens = s.gens) (e2 : s₁.drawn = s.drawn) (e3 : s₁.os = s.os) (x : LeftX g (env :: outer) keep Exc s₁ ev s') : E ev s' := by
  obtain ⟨C, c2, e, oe, T, oT, rfl, hX, hF, hT, eT, k, N, ne, x1, x2, x3⟩ := x
  obtain ⟨h₁, Tn1, F1, N1⟩ := view_back (h' := s'.heap) B XB TB D FG hf k N
  obtain ⟨hp, ge, dr, tk, os⟩ := s'
  dsimp only at x1 x2 x3 F1 N1
  rw [x1, x2, x3, e1, e2, e3]
  exact hE _ _ _ _ _ _ _ _ tk hX Tn1 F1 N1 hF hT eT ne
theorem ctrX_def (ho : (NzH.hd.heap_39 w.params).lookup f = some ⟨oc, od, .func (fnOf name qual params body scope dV kV doc pm an cdv ct), osl⟩) (hcd : codeIn (NzH.hd.heap_39 w.params) cdv qual = true)
    (hbind : ∀ s : Shared, (NzH.hd.heap_39 w.params).In s.heap → BindsTo s (fnOf name qual params body scope dV kV doc pm an cdv ct) ⟨vs, []⟩ binds) (hloc : ∀ y ∈ binds, scope.names.lookup y.1 = some .local)
    (hco : scope.isCoroutine = false) (hgen : scope.isGenerator = false) (hk : scope.kind = .function) (hcell : ∀ x ∈ scope.names, x.2 ≠ .cell)
    (h : ∀ (mean : ExcName → Option Value) (mg mb : Str → Option Value) (dp un : Nat) (gd : Option (List Code)) (env : Env) (outer : List Env) (base g : Heap) (L : Addr) (s : Shared),
      Below (arK dp un gd env outer) base (env :: outer) g → Fr g L s.heap (fun y => binds.reverse.lookup y) → (NzH.hd.heap_39 w.params).In g → News g L s.heap news → TopN mean mg mb g → (NzH.hd.heap_39 w.params).In base → TopN mean mg mb base → KtsDicts (fsOf (env :: outer)) g →
      dp + d < recursionLimit → un + u < cLine →
      wpAny (model PySem.Challenge.rw_nz0212_01.row.prog w) ((arK dp un gd env outer).deeper (envOf qual scope L f cdv)) (execs body (envOf qual scope L f cdv)) (EndX w (arK dp un gd env outer) base (env :: outer) mean mg mb Post g L s)
        (RaiX (model PySem.Challenge.rw_nz0212_01.row.prog w) ((arK dp un gd env outer).deeper (envOf qual scope L f cdv)) (envOf qual scope L f cdv) g (env :: outer) keep Exc s) s) (hd0 : 0 < d) :
    CtrX w (.ref f) vs d u news keep Post Exc := by
  intro mean mg mb dp un gd A₀ env outer base h₀ L m s Q E B F X N T XB TB D hf hke hd hu hQ hE
  have hX := X.keeps F.keep
  obtain ⟨FG, BG, st, _⟩ := groundX (R := fun _ _ => True) B F N rfl hf hke (A := arK dp un gd env outer)
  refine codeAny_call_def (fd := fnOf name qual params body scope dV kV doc pm an cdv ct) (body := body) (binds := binds) (show dp < recursionLimit by omega) (hX _ _ ho) rfl (T.nolimit.keeps F.keep) (codeRec_of hX hcd) rfl (hbind s hX) hcell hloc (fun h₁ hns hk₁ => ?_) hco hgen hk
  refine wpAny_mono (h mean mg mb dp un gd env outer base _ s.heap.objs.size { s with heap := h₁, toks := s.toks + binds.length } BG
    ⟨hns, fun b o e => hk₁ b o (of_hideAll _ e), Nat.le_of_eq (hideAll_size _ _)⟩ (X.keeps st)
    (fun p hp => ⟨hk₁ _ _ (N p hp).1, Nat.ne_of_lt (Heap.lt_size (N p hp).1), hideAll_none _ (List.mem_map_of_mem hp)⟩) (T.keeps st) XB TB (ground_dicts FG D hf) hd hu) (fun fl s' e => ?_) fun ev s' e => ?_
  · have := ends_ok (s := s) B XB TB D FG hf hQ rfl rfl rfl e
    cases fl <;> exact this
  · exact wpAny_mono e (fun _ s'' x => ends_ex (s := s) B XB TB D FG hf hE rfl rfl rfl x) fun _ _ q => q.elim
theorem CtrX.use {fv : Value} (C : CtrX w fv vs d u news keep Post Exc) {mean : ExcName → Option Value} {mg mb : Str → Option Value} {dp un : Nat} {gd : Option (List Code)} {A₀ : Around} {env : Env} {outer : List Env} {base h₀ : Heap} {L : Addr} {m : Str → Option Value} {s : Shared} {Q E : Value → Shared → Prop} {led : Led}
    (B : Below A₀ base outer h₀) (F : Fr h₀ L s.heap m) (X : (NzH.hd.heap_39 w.params).In h₀) (N : News h₀ L s.heap led) (T : TopN mean mg mb h₀) (XB : (NzH.hd.heap_39 w.params).In base) (TB : TopN mean mg mb base) (D : KtsDicts (fsOf outer) h₀)
    (hs : ∀ p ∈ news, p ∈ led) (hf : env.frame = some L) (hk : env.scope.kind = .function) (hd : dp + d < recursionLimit) (hu : un + u < cLine)
    (h : ∀ r news' h₁ h' tk, Post r news' → Turned w A₀ base outer mean mg mb h₀ h₁ → Fr h₁ L h' m → News h₁ L h' news' → Q r { s with heap := h', toks := tk })
    (hE : ∀ C c2 e oe T oT h₁ h' tk, Exc C c2 → Turned w A₀ base outer mean mg mb h₀ h₁ → Fr h₁ L h' m → News h₁ L h' ((e, oe) :: (T, oT) :: keep) → FlyO C T c2 oe → TrcO .none oT → e ≠ T → (∀ p ∈ keep, p.1 ≠ e ∧ p.1 ≠ T) → E (.ref e) { s with heap := h', toks := tk }) :
    wpAny (model PySem.Challenge.rw_nz0212_01.row.prog w) (arK dp un gd env outer) (call fv vs) Q E s :=
  wpAny_call (C mean mg mb dp un gd A₀ env outer base h₀ L m s Q E B F X (fun p hp => N p (hs p hp)) T XB TB D hf hk hd hu h hE)
/-- a def some of whose locals lie in cells -/
theorem ctrX_cells (ho : (NzH.hd.heap_39 w.params).lookup f = some ⟨oc, od, .func (fnX name qual params body scope [] dV kV doc pm an cdv ct), osl⟩) (hcd : codeIn (NzH.hd.heap_39 w.params) cdv qual = true)
    (hbind : ∀ s : Shared, (NzH.hd.heap_39 w.params).In s.heap → BindsTo s (fnX name qual params body scope [] dV kV doc pm an cdv ct) ⟨vs, []⟩ binds)
    (hkind : ∀ n, ∀ x ∈ binds, scope.names.lookup x.1 = some .local ∨ (scope.names.lookup x.1 = some .cell ∧ ((cellsFrom n scope.names []).lookup x.1).isSome = true))
    (hnd : ((cellsFrom 0 scope.names []).map (·.1)).Nodup)
    (hco : scope.isCoroutine = false) (hgen : scope.isGenerator = false) (hk : scope.kind = .function)
    (h : ∀ (mean : ExcName → Option Value) (mg mb : Str → Option Value) (dp un : Nat) (gd : Option (List Code)) (env : Env) (outer : List Env) (base g : Heap) (L : Addr) (cells : Led) (s : Shared),
      Below (arK dp un gd env outer) base (env :: outer) g → Fr g L s.heap (bindL (envOfC qual scope L f cdv).kindOf binds fun _ => none) → (NzH.hd.heap_39 w.params).In g → News g L s.heap (cells ++ news) →
      CellsAre (bindC (envOfC qual scope L f cdv).kindOf binds fun _ => none) (cellsFrom (L + 1) scope.names []) cells → (∀ p ∈ news, p.1 < L) →
      TopN mean mg mb g → (NzH.hd.heap_39 w.params).In base → TopN mean mg mb base → KtsDicts (fsOf (env :: outer)) g → dp + d < recursionLimit → un + u < cLine →
      wpAny (model PySem.Challenge.rw_nz0212_01.row.prog w) ((arK dp un gd env outer).deeper (envOfC qual scope L f cdv)) (execs body (envOfC qual scope L f cdv)) (EndX w (arK dp un gd env outer) base (env :: outer) mean mg mb Post g L s)
        (RaiX (model PySem.Challenge.rw_nz0212_01.row.prog w) ((arK dp un gd env outer).deeper (envOfC qual scope L f cdv)) (envOfC qual scope L f cdv) g (env :: outer) keep Exc s) s) (hd0 : 0 < d) :
    CtrX w (.ref f) vs d u news keep Post Exc := by
  intro mean mg mb dp un gd A₀ env outer base h₀ L m s Q E B F X N T XB TB D hf hke hd hu hQ hE
  have hX := X.keeps F.keep
  obtain ⟨FG, BG, st, _⟩ := groundX (R := fun _ _ => True) B F N rfl hf hke (A := arK dp un gd env outer)
  refine codeAny_call_function (show dp < recursionLimit by omega) (hX _ _ ho) rfl hco hgen rfl (codeRec_of hX hcd) (hbind s hX _ _ _ _ ?_)
  refine wpAny_newFunctionEnv_cells hk (hkind _) fun env' he s₁ x => ?_
  subst he
  refine ⟨(T.nolimit.keeps F.keep).keeps x.toInCall.keep, codeAny_func ?_⟩
  obtain ⟨h₁, tk, rfl, _⟩ := x.done
  have hk₁ := x.toInCall.keep
  obtain ⟨cells, NC, Y⟩ := Cl.news (h₀ := s.heap) (Nat.le_refl _) fun n c hm => ⟨x.cell n c (lookup_of_mem_nodup (cellsFrom_names scope.names 0 (s.heap.objs.size + 1) [] [] rfl ▸ hnd) hm), x.above n c hm⟩
  have gone : ∀ {b}, s.heap.get? b = none → (hideAll s.heap (news.map (·.1))).get? b = none := fun {b} z => by
    cases q : (hideAll s.heap (news.map (·.1))).get? b with
    | none => rfl
    | some o => rw [of_hideAll _ q] at z; cases z
  refine wpAny_mono (h mean mg mb dp un gd env outer base _ s.heap.objs.size cells { s with heap := h₁, toks := tk } BG ⟨x.toInCall.ns, fun b o e => hk₁ b o (of_hideAll _ e), Nat.le_of_eq (hideAll_size _ _)⟩ (X.keeps st) (fun p hp => ?_) Y (fun p hp => Heap.lt_size (N p hp).1)
    (T.keeps st) XB TB (ground_dicts FG D hf) hd hu) (fun fl s' e => ?_) fun ev s' e => ?_
  · rcases List.mem_append.mp hp with hp | hp
    · exact ⟨(NC p hp).1, (NC p hp).2.1, gone (NC p hp).2.2⟩
    · exact ⟨hk₁ _ _ (N p hp).1, Nat.ne_of_lt (Heap.lt_size (N p hp).1), hideAll_none _ (List.mem_map_of_mem hp)⟩
  · have := ends_ok (s := s) B XB TB D FG hf hQ rfl rfl rfl e
    cases fl <;> exact this
  · exact wpAny_mono e (fun _ s'' x => ends_ex (s := s) B XB TB D FG hf hE rfl rfl rfl x) fun _ _ q => q.elim
end
end
section
theorem off_NzHx : True := by
  w_top off
  trivial
open PySem PySem.W PySem.Calls PyProof.Rows
def PremE (w : World) (f : Addr) (vs : List Value) (d : Nat) (u : Nat) (news : Led) (Post : Value → Led → Prop) (y : Fm) : Prop :=
  ∀ (name qual : Str) (params : Arguments) (body : List Stmt) (scope : Scope) (dV kV doc pm cdv ct oc : Value) (an od : Option Addr) (osl : Array (Option Value)), (NzH.hd.heap_39 w.params).lookup f = some ⟨oc, od, .func (fnOf name qual params body scope dV kV doc pm an cdv ct), osl⟩ →
      ∀ (cells : Led), Below (arK y.dp y.un y.gd y.env y.outer) y.base (y.env :: y.outer) y.g →
      Fr y.g y.L y.s.heap (bindL (envOfC qual scope y.L f cdv).kindOf (bindsOf w f vs) fun _ => none) →
      (NzH.hd.heap_39 w.params).In y.g →
      News y.g y.L y.s.heap (cells ++ news) →
      CellsAre (bindC (envOfC qual scope y.L f cdv).kindOf (bindsOf w f vs) fun _ => none) (cellsFrom (y.L + 1) scope.names []) cells →
      (∀ p ∈ news, p.1 < y.L) →
      Top NzH.hd.view_39 (looseW NzH.hd.view_39 [Str.ofString "BoardError", Str.ofString "Super"]) y.mean y.mg y.mb y.g →
      y.dp + d < recursionLimit →
      y.un + u < cLine →
      wpAny (model PySem.Challenge.rw_nz0212_01.row.prog w) ((arK y.dp y.un y.gd y.env y.outer).deeper (envOfC qual scope y.L f cdv)) (execs body (envOfC qual scope y.L f cdv)) (EndQ Post y.g y.L y.s) (fun _ _ => False) y.s
theorem premE_of {w : World} {f : Addr} {vs : List Value} {d : Nat} {u : Nat} {news : Led} {Post : Value → Led → Prop} {y : Fm} {name qual : Str} {params : Arguments} {body : List Stmt} {scope : Scope} {dV kV doc pm cdv ct oc : Value} {an od : Option Addr} {osl : Array (Option Value)} {binds : List (Str × Value)}
    (ho : (NzH.hd.heap_39 w.params).lookup f = some ⟨oc, od, .func (fnOf name qual params body scope dV kV doc pm an cdv ct), osl⟩) (hb : bindsOf w f vs = binds)
    (h : ∀ (cells : Led), Below (arK y.dp y.un y.gd y.env y.outer) y.base (y.env :: y.outer) y.g →
      Fr y.g y.L y.s.heap (bindL (envOfC qual scope y.L f cdv).kindOf binds fun _ => none) →
      (NzH.hd.heap_39 w.params).In y.g →
      News y.g y.L y.s.heap (cells ++ news) →
      CellsAre (bindC (envOfC qual scope y.L f cdv).kindOf binds fun _ => none) (cellsFrom (y.L + 1) scope.names []) cells →
      (∀ p ∈ news, p.1 < y.L) →
      Top NzH.hd.view_39 (looseW NzH.hd.view_39 [Str.ofString "BoardError", Str.ofString "Super"]) y.mean y.mg y.mb y.g →
      y.dp + d < recursionLimit →
      y.un + u < cLine →
      wpAny (model PySem.Challenge.rw_nz0212_01.row.prog w) ((arK y.dp y.un y.gd y.env y.outer).deeper (envOfC qual scope y.L f cdv)) (execs body (envOfC qual scope y.L f cdv)) (EndQ Post y.g y.L y.s) (fun _ _ => False) y.s) : PremE w f vs d u news Post y := by
  intro name' qual' params' body' scope' dV' kV' doc' pm' cdv' ct' oc' an' od' osl' ho'
  rw [ho] at ho'
  simp only [Option.some.injEq, Obj.mk.injEq, Data.func.injEq] at ho'
  obtain ⟨-, -, e, -⟩ := ho'
  unfold fnOf at e
  injections
  subst_vars
  exact h
def PremX (w : World) (f : Addr) (vs : List Value) (d : Nat) (u : Nat) (news : Led) (keep : Led) (Post : Value → Led → Prop) (Exc : Addr → Value → Prop) (y : Fm) : Prop :=
  ∀ (name qual : Str) (params : Arguments) (body : List Stmt) (scope : Scope) (dV kV doc pm cdv ct oc : Value) (an od : Option Addr) (osl : Array (Option Value)), (NzH.hd.heap_39 w.params).lookup f = some ⟨oc, od, .func (fnOf name qual params body scope dV kV doc pm an cdv ct), osl⟩ →
      Below (arK y.dp y.un y.gd y.env y.outer) y.base (y.env :: y.outer) y.g →
      Fr y.g y.L y.s.heap (fun z => List.lookup z (List.reverse (bindsOf w f vs))) →
      (NzH.hd.heap_39 w.params).In y.g →
      News y.g y.L y.s.heap news →
      TopN y.mean y.mg y.mb y.g →
      (NzH.hd.heap_39 w.params).In y.base →
      TopN y.mean y.mg y.mb y.base →
      KtsDicts (fsOf (y.env :: y.outer)) y.g →
      y.dp + d < recursionLimit →
      y.un + u < cLine →
      wpAny (model PySem.Challenge.rw_nz0212_01.row.prog w) ((arK y.dp y.un y.gd y.env y.outer).deeper (envOf qual scope y.L f cdv)) (execs body (envOf qual scope y.L f cdv)) (EndX w (arK y.dp y.un y.gd y.env y.outer) y.base (y.env :: y.outer) y.mean y.mg y.mb Post y.g y.L y.s) (RaiX (model PySem.Challenge.rw_nz0212_01.row.prog w) ((arK y.dp y.un y.gd y.env y.outer).deeper (envOf qual scope y.L f cdv)) (envOf qual scope y.L f cdv) y.g (y.env :: y.outer) keep Exc y.s) y.s
theorem premX_of {w : World} {f : Addr} {vs : List Value} {d : Nat} {u : Nat} {news : Led} {keep : Led} {Post : Value → Led → Prop} {Exc : Addr → Value → Prop} {y : Fm} {name qual : Str} {params : Arguments} {body : List Stmt} {scope : Scope} {dV kV doc pm cdv ct oc : Value} {an od : Option Addr} {osl : Array (Option Value)} {binds : List (Str × Value)}
    (ho : (NzH.hd.heap_39 w.params).lookup f = some ⟨oc, od, .func (fnOf name qual params body scope dV kV doc pm an cdv ct), osl⟩) (hb : bindsOf w f vs = binds)
    (h : Below (arK y.dp y.un y.gd y.env y.outer) y.base (y.env :: y.outer) y.g →
      Fr y.g y.L y.s.heap (fun z => List.lookup z (List.reverse binds)) →
      (NzH.hd.heap_39 w.params).In y.g →
      News y.g y.L y.s.heap news →
      TopN y.mean y.mg y.mb y.g →
      (NzH.hd.heap_39 w.params).In y.base →
      TopN y.mean y.mg y.mb y.base →
      KtsDicts (fsOf (y.env :: y.outer)) y.g →
      y.dp + d < recursionLimit →
      y.un + u < cLine →
      wpAny (model PySem.Challenge.rw_nz0212_01.row.prog w) ((arK y.dp y.un y.gd y.env y.outer).deeper (envOf qual scope y.L f cdv)) (execs body (envOf qual scope y.L f cdv)) (EndX w (arK y.dp y.un y.gd y.env y.outer) y.base (y.env :: y.outer) y.mean y.mg y.mb Post y.g y.L y.s) (RaiX (model PySem.Challenge.rw_nz0212_01.row.prog w) ((arK y.dp y.un y.gd y.env y.outer).deeper (envOf qual scope y.L f cdv)) (envOf qual scope y.L f cdv) y.g (y.env :: y.outer) keep Exc y.s) y.s) : PremX w f vs d u news keep Post Exc y := by
  intro name' qual' params' body' scope' dV' kV' doc' pm' cdv' ct' oc' an' od' osl' ho'
  rw [ho] at ho'
  simp only [Option.some.injEq, Obj.mk.injEq, Data.func.injEq] at ho'
  obtain ⟨-, -, e, -⟩ := ho'
  unfold fnOf at e
  injections
  subst_vars
  exact h
def PremY (w : World) (f : Addr) (vs : List Value) (d : Nat) (u : Nat) (news : Led) (keep : Led) (Post : Value → Led → Prop) (Exc : Addr → Value → Prop) (y : Fm) : Prop :=
  ∀ (name qual : Str) (params : Arguments) (body : List Stmt) (scope : Scope) (dV kV doc pm cdv ct oc : Value) (an od : Option Addr) (osl : Array (Option Value)), (NzH.hd.heap_39 w.params).lookup f = some ⟨oc, od, .func (fnX name qual params body scope [] dV kV doc pm an cdv ct), osl⟩ →
      ∀ (cells : Led), Below (arK y.dp y.un y.gd y.env y.outer) y.base (y.env :: y.outer) y.g →
      Fr y.g y.L y.s.heap (bindL (envOfC qual scope y.L f cdv).kindOf (bindsOf w f vs) fun _ => none) →
      (NzH.hd.heap_39 w.params).In y.g →
      News y.g y.L y.s.heap (cells ++ news) →
      CellsAre (bindC (envOfC qual scope y.L f cdv).kindOf (bindsOf w f vs) fun _ => none) (cellsFrom (y.L + 1) scope.names []) cells →
      (∀ p ∈ news, p.1 < y.L) →
      TopN y.mean y.mg y.mb y.g →
      (NzH.hd.heap_39 w.params).In y.base →
      TopN y.mean y.mg y.mb y.base →
      KtsDicts (fsOf (y.env :: y.outer)) y.g →
      y.dp + d < recursionLimit →
      y.un + u < cLine →
      wpAny (model PySem.Challenge.rw_nz0212_01.row.prog w) ((arK y.dp y.un y.gd y.env y.outer).deeper (envOfC qual scope y.L f cdv)) (execs body (envOfC qual scope y.L f cdv)) (EndX w (arK y.dp y.un y.gd y.env y.outer) y.base (y.env :: y.outer) y.mean y.mg y.mb Post y.g y.L y.s) (RaiX (model PySem.Challenge.rw_nz0212_01.row.prog w) ((arK y.dp y.un y.gd y.env y.outer).deeper (envOfC qual scope y.L f cdv)) (envOfC qual scope y.L f cdv) y.g (y.env :: y.outer) keep Exc y.s) y.s
theorem premY_of {w : World} {f : Addr} {vs : List Value} {d : Nat} {u : Nat} {news : Led} {keep : Led} {Post : Value → Led → Prop} {Exc : Addr → Value → Prop} {y : Fm} {name qual : Str} {params : Arguments} {body : List Stmt} {scope : Scope} {dV kV doc pm cdv ct oc : Value} {an od : Option Addr} {osl : Array (Option Value)} {binds : List (Str × Value)}
    (ho : (NzH.hd.heap_39 w.params).lookup f = some ⟨oc, od, .func (fnX name qual params body scope [] dV kV doc pm an cdv ct), osl⟩) (hb : bindsOf w f vs = binds)
    (h : ∀ (cells : Led), Below (arK y.dp y.un y.gd y.env y.outer) y.base (y.env :: y.outer) y.g →
      Fr y.g y.L y.s.heap (bindL (envOfC qual scope y.L f cdv).kindOf binds fun _ => none) →
      (NzH.hd.heap_39 w.params).In y.g →
      News y.g y.L y.s.heap (cells ++ news) →
      CellsAre (bindC (envOfC qual scope y.L f cdv).kindOf binds fun _ => none) (cellsFrom (y.L + 1) scope.names []) cells →
      (∀ p ∈ news, p.1 < y.L) →
      TopN y.mean y.mg y.mb y.g →
      (NzH.hd.heap_39 w.params).In y.base →
      TopN y.mean y.mg y.mb y.base →
      KtsDicts (fsOf (y.env :: y.outer)) y.g →
      y.dp + d < recursionLimit →
      y.un + u < cLine →
      wpAny (model PySem.Challenge.rw_nz0212_01.row.prog w) ((arK y.dp y.un y.gd y.env y.outer).deeper (envOfC qual scope y.L f cdv)) (execs body (envOfC qual scope y.L f cdv)) (EndX w (arK y.dp y.un y.gd y.env y.outer) y.base (y.env :: y.outer) y.mean y.mg y.mb Post y.g y.L y.s) (RaiX (model PySem.Challenge.rw_nz0212_01.row.prog w) ((arK y.dp y.un y.gd y.env y.outer).deeper (envOfC qual scope y.L f cdv)) (envOfC qual scope y.L f cdv) y.g (y.env :: y.outer) keep Exc y.s) y.s) : PremY w f vs d u news keep Post Exc y := by
  intro name' qual' params' body' scope' dV' kV' doc' pm' cdv' ct' oc' an' od' osl' ho'
  rw [ho] at ho'
  simp only [Option.some.injEq, Obj.mk.injEq, Data.func.injEq] at ho'
  obtain ⟨-, -, e, -⟩ := ho'
  unfold fnX at e
  injections
  subst_vars
  exact h
def PremD (w : World) (f : Addr) (vs : List Value) (d : Nat) (u : Nat) (news : Led) (Post : Value → Led → Prop) (y : Fm) : Prop :=
  ∀ (name qual : Str) (params : Arguments) (body : List Stmt) (scope : Scope) (dV kV doc pm cdv ct oc : Value) (an od : Option Addr) (osl : Array (Option Value)), (NzH.hd.heap_39 w.params).lookup f = some ⟨oc, od, .func (fnX name qual params body scope [] dV kV doc pm an cdv ct), osl⟩ →
      ∀ (cells : Led), Below (arK y.dp y.un y.gd y.env y.outer) y.base (y.env :: y.outer) y.g →
      Fr y.g y.L y.s.heap (bindL (envOfC qual scope y.L f cdv).kindOf (bindsOf w f vs) fun _ => none) →
      (NzH.hd.heap_39 w.params).In y.g →
      News y.g y.L y.s.heap (cells ++ news) →
      CellsAre (bindC (envOfC qual scope y.L f cdv).kindOf (bindsOf w f vs) fun _ => none) (cellsFrom (y.L + 1) scope.names []) cells →
      (∀ p ∈ news, p.1 < y.L) →
      TopN y.mean y.mg y.mb y.g →
      (NzH.hd.heap_39 w.params).In y.base →
      TopN y.mean y.mg y.mb y.base →
      KtsDicts (fsOf (y.env :: y.outer)) y.g →
      y.dp + d < recursionLimit →
      y.un + u < cLine →
      wpC (model PySem.Challenge.rw_nz0212_01.row.prog w) ((arK y.dp y.un y.gd y.env y.outer).deeper (envOfC qual scope y.L f cdv)) (execs body (envOfC qual scope y.L f cdv)) (EndX w (arK y.dp y.un y.gd y.env y.outer) y.base (y.env :: y.outer) y.mean y.mg y.mb Post y.g y.L y.s) (fun _ _ => False) y.s
theorem premD_of {w : World} {f : Addr} {vs : List Value} {d : Nat} {u : Nat} {news : Led} {Post : Value → Led → Prop} {y : Fm} {name qual : Str} {params : Arguments} {body : List Stmt} {scope : Scope} {dV kV doc pm cdv ct oc : Value} {an od : Option Addr} {osl : Array (Option Value)} {binds : List (Str × Value)}
    (ho : (NzH.hd.heap_39 w.params).lookup f = some ⟨oc, od, .func (fnX name qual params body scope [] dV kV doc pm an cdv ct), osl⟩) (hb : bindsOf w f vs = binds)
    (h : ∀ (cells : Led), Below (arK y.dp y.un y.gd y.env y.outer) y.base (y.env :: y.outer) y.g →
      Fr y.g y.L y.s.heap (bindL (envOfC qual scope y.L f cdv).kindOf binds fun _ => none) →
      (NzH.hd.heap_39 w.params).In y.g →
      News y.g y.L y.s.heap (cells ++ news) →
      CellsAre (bindC (envOfC qual scope y.L f cdv).kindOf binds fun _ => none) (cellsFrom (y.L + 1) scope.names []) cells →
      (∀ p ∈ news, p.1 < y.L) →
      TopN y.mean y.mg y.mb y.g →
      (NzH.hd.heap_39 w.params).In y.base →
      TopN y.mean y.mg y.mb y.base →
      KtsDicts (fsOf (y.env :: y.outer)) y.g →
      y.dp + d < recursionLimit →
      y.un + u < cLine →
      wpC (model PySem.Challenge.rw_nz0212_01.row.prog w) ((arK y.dp y.un y.gd y.env y.outer).deeper (envOfC qual scope y.L f cdv)) (execs body (envOfC qual scope y.L f cdv)) (EndX w (arK y.dp y.un y.gd y.env y.outer) y.base (y.env :: y.outer) y.mean y.mg y.mb Post y.g y.L y.s) (fun _ _ => False) y.s) : PremD w f vs d u news Post y := by
  intro name' qual' params' body' scope' dV' kV' doc' pm' cdv' ct' oc' an' od' osl' ho'
  rw [ho] at ho'
  simp only [Option.some.injEq, Obj.mk.injEq, Data.func.injEq] at ho'
  obtain ⟨-, -, e, -⟩ := ho'
  unfold fnX at e
  injections
  subst_vars
  exact h
end
section
theorem off_NzY4 : True := by
  w_top off
  trivial
open PySem PySem.W PySem.Calls PyProof.Rows PySem.Builtin
section
variable {w : World} {A₀ : Around} {base g : Heap} {outer : List Env} {L a e C T : Addr} {m : Str → Option Value} {name : Str} {scope : Scope} {cd : Value} {cl : List (Str × Addr)} {mean : ExcName → Option Value} {mg mb : Str → Option Value} {news : Led} {s : Shared} {oe oT : Obj} {c2 : Value} {x : Str} {np pos : Pos} {b₀ : Stmt} {suite : List Stmt} {rest : List ExceptHandler} {Q : Flow → Shared → Prop} {E : Value → Shared → Prop}
theorem set_flight_led {g h₀ : Heap} {A : Around} {M : Model} {fl : Option Addr} {fl0 : Value} {s : Shared} {Q : Unit → Shared → Prop} (F : Fr g L s.heap m) (N : News g L s.heap ((e, oe) :: (T, oT) :: news)) (hF : FlyO C T c2 oe) (hT : TrcO fl0 oT) (eT : e ≠ T) (ne : ∀ p ∈ news, p.1 ≠ e ∧ p.1 ≠ T)
    (h : ∀ h' oT', Fr g L h' m → News g L h' ((e, oe) :: (T, oT') :: news) → TrcO (fl.elim .none fun f => rawInt f) oT' → Q () { s with heap := h' }) : wpAny M A (setFlight (.ref e) fl) Q E s := by
  have he := (N _ (.head _)).1
  have hT' := (N (T, oT) (.tail _ (.head _))).1
  refine set_flight (x := fl) he hF hT' hT fun oT' h1 h2 => ?_
  obtain ⟨F', N'⟩ := news_but1 (pre := [(e, oe)]) (post := news) (oe' := oT') F N (fun p hp => by rw [List.mem_singleton.mp hp]; exact eT) (fun p hp => (ne p hp).2)
    (fun b o hb ho => (Heap.get?_update_other _ _ (Ne.symm hb)).trans ho) h1
  exact h _ _ F' N' h2
/-- an except clause that names the class of the exception at hand -/
theorem caughtX (B : Below A₀ base outer g) (XB : (NzH.hd.heap_39 w.params).In base) (TB : TopN mean mg mb base) (D : KtsDicts (fsOf outer) g) (F : Fr g L s.heap m) (N : News g L s.heap ((e, oe) :: (T, oT) :: news)) (hF : FlyO C T c2 oe) (hT : TrcO .none oT) (eT : e ≠ T) (ne : ∀ p ∈ news, p.1 ≠ e ∧ p.1 ≠ T)
    (hC : C = 45 ∨ C = 57) (ex : nsIn (NzH.hd.heap_39 w.params) mainGlobals x = some (some (.ref C)))
    (k : ∀ h' g' T' oe' oT', Turned w A₀ base outer mean mg mb g g' → Fr g' L h' m → News g' L h' ((e, oe') :: (T', oT') :: news) → FlyO C T' c2 oe' → TrcO .none oT' → e ≠ T' → (∀ p ∈ news, p.1 ≠ e ∧ p.1 ≠ T') →
      wpAny (model PySem.Challenge.rw_nz0212_01.row.prog w) ((A₀.deeper (envX name scope L a cd cl)).mark (some (.ref e))) (execs (b₀ :: suite) (envX name scope L a cd cl)) Q
        (notedBy (model PySem.Challenge.rw_nz0212_01.row.prog w) ((A₀.deeper (envX name scope L a cd cl)).mark (some (.ref e))) (envX name scope L a cd cl) (cameBackBy (model PySem.Challenge.rw_nz0212_01.row.prog w) (A₀.deeper (envX name scope L a cd cl)) (envX name scope L a cd cl) E)) { s with heap := h' })
    (hk : scope.kind = .function := by rfl) (hx : (envX name scope L a cd cl).kindOf x = some .globalImplicit := by rfl) (hd : (x == ("__debug__" : Str)) = false := by decide) :
    wpAny (model PySem.Challenge.rw_nz0212_01.row.prog w) (A₀.deeper (envX name scope L a cd cl)) (noteFrame (.ref e) (envX name scope L a cd cl))
      (fun _ s₂ => wpAny (model PySem.Challenge.rw_nz0212_01.row.prog w) (A₀.deeper (envX name scope L a cd cl)) (setFlight (.ref e) none) (fun _ s₃ =>
        wpAny (model PySem.Challenge.rw_nz0212_01.row.prog w) (A₀.deeper (envX name scope L a cd cl)) (handleBy (.ref e) (envX name scope L a cd cl) (.ExceptHandler (some (.Name x np)) none (b₀ :: suite) pos :: rest)) Q E s₃) E s₂) E s := by
  have B' := pushX (env := envX name scope L a cd cl) B F rfl hk
  obtain ⟨FG, _, _, _⟩ := groundX (R := fun _ _ => True) (env := envX name scope L a cd cl) (A := A₀.deeper (envX name scope L a cd cl)) B F N B'.stack rfl hk
  have he := (N _ (.head _)).1
  have hTg := (N (T, oT) (.tail _ (.head _))).1
  refine note_next B'.stack B'.frames rfl he hF hTg hT (Ne.symm eT) fun h₁ T' oT' oe' sp he₁ hF₁ hz hT₁ hTr₁ => ?_
  have eT' : e ≠ T' := fun q => by have := Heap.lt_size he; rw [q] at this; exact absurd this (Nat.not_lt.mpr hz)
  refine set_flight (s := { s with heap := h₁ }) (x := none) he₁ hF₁ hT₁ hTr₁ fun oT₂ hT₂ hTr₂ => ?_
  have ltT : ∀ {b o}, s.heap.get? b = some o → b ≠ T' := fun q z => by have := Heap.lt_size q; rw [z] at this; exact absurd this (Nat.not_lt.mpr hz)
  have other : ∀ b, b ≠ T' → (h₁.update T' (Obj.mapFields (·.setIfInBounds 3 ((none : Option Addr).elim Value.none fun f => rawInt f)))).get? b = h₁.get? b := fun b hb => Heap.get?_update_other _ _ (Ne.symm hb)
  have spun : ∀ b o, b ≠ e → b ≠ T → s.heap.get? b = some o → (b ∉ fsOf (envX name scope L a cd cl :: outer) → (h₁.update T' (Obj.mapFields (·.setIfInBounds 3 ((none : Option Addr).elim Value.none fun f => rawInt f)))).get? b = some o) ∧ ∃ sl, (h₁.update T' (Obj.mapFields (·.setIfInBounds 3 ((none : Option Addr).elim Value.none fun f => rawInt f)))).get? b = some { o with slots := sl } := fun b o hb hbT q => by
    obtain ⟨x1, sl, x2⟩ := sp b o hb ((Heap.get?_update_other _ _ (Ne.symm hbT)).trans q)
    exact ⟨fun hn => (other b (ltT q)).trans (x1 hn), sl, (other b (ltT q)).trans x2⟩
  have hid : ∀ {b o}, (hideAll s.heap (((e, oe) :: (T, oT) :: news).map (·.1))).get? b = some o → b ≠ e ∧ b ≠ T := fun {b o} q =>
    ⟨fun z => by (rw [z, hideAll_none _ (by simp)] at q; cases q), fun z => by (rw [z, hideAll_none _ (by simp)] at q; cases q)⟩
  obtain ⟨g₂, Tn₂, F₂, N₂⟩ := view_back (h' := h₁.update T' (Obj.mapFields (·.setIfInBounds 3 ((none : Option Addr).elim Value.none fun f => rawInt f)))) (news' := (e, oe') :: (T', oT₂) :: news) (env := envX name scope L a cd cl) B XB TB D FG rfl
    (fun b o q => spun b o (hid q).1 (hid q).2 (of_hideAll _ q)) (fun p hp => by
      rcases List.mem_cons.mp hp with rfl | hp
      · exact ⟨(other e eT').trans he₁, hideAll_none _ (by simp)⟩
      · rcases List.mem_cons.mp hp with rfl | hp
        · refine ⟨hT₂, ?_⟩
          cases q : (hideAll s.heap (((e, oe) :: (T, oT) :: news).map (·.1))).get? T' with
          | none => rfl
          | some o => exact absurd rfl (ltT (of_hideAll _ q))
        · have z := N p (.tail _ (.tail _ hp))
          refine ⟨(spun p.1 p.2 (ne p hp).1 (ne p hp).2 z.1).1 fun hm => ?_, hideAll_none _ (by simp; exact .inr (.inr ⟨p.2, hp⟩))⟩
          rcases List.mem_filterMap.mp hm with ⟨ev, hev, hef⟩
          rcases List.mem_cons.mp hev with rfl | hev
          · exact z.2.1 (Option.some.inj hef).symm
          · obtain ⟨o', ho', _⟩ := (B.frames.mem (List.mem_filterMap.mpr ⟨ev, hev, hef⟩)).2
            rw [z.2.2] at ho'; cases ho')
  have ne' : ∀ p ∈ news, p.1 ≠ e ∧ p.1 ≠ T' := fun p hp => ⟨(ne p hp).1, ltT (N p (.tail _ (.tail _ hp))).1⟩
  obtain ⟨nm, qn, N', bs, hdct, sn, sub, ab, col, dd, k0, k1, k2, k3, k5, hCl⟩ := x_at Tn₂.inn (x_in (p := w.params) hC)
  have hCl₂ := F₂.keep _ _ hCl
  refine wpAny_handleBy_cons (codeAny_handlers_test (nameX_K F₂ Tn₂.inn (topRead_of Tn₂.top) ex ?_ hk hx hd)) (by intro q; cases q)
  refine wpAny_excMatches_sub_self hCl₂ (N₂ _ (.head _)).1 hF₁.1 (by unfold xTail; simp) (codeAny_handlers_suite ?_)
  refine set_flight_led (s := { s with heap := _ }) (h₀ := g) F₂ N₂ hF₁ hTr₂ eT' ne' fun h₃ oT₃ F₃ N₃ hTr₃ => ?_
  exact k h₃ g₂ T' oe' oT₃ Tn₂ F₃ N₃ hF₁ hTr₃ eT' ne'
end
end
section
theorem off_NzY5 : True := by
  w_top off
  trivial
open PySem PySem.W PySem.Calls PyProof.Rows PySem.Builtin
section
variable {w : World} {prog : Program} {A : Around} {s : Shared} {env : Env} {Q : Flow → Shared → Prop} {E : Value → Shared → Prop}
/-- a made exception is about to be raised; hd: what is being handled -/
def RaisesV (w : World) (hd : Option Value) (E : Value → Shared → Prop) (v : Value) (s₁ : Shared) : Prop :=
  ∃ e oe C a0 c3 c4 c5, v = .ref e ∧ (NzH.hd.heap_39 w.params).In s₁.heap ∧ (C = 45 ∨ C = 57) ∧ s₁.heap.get? e = some oe ∧ oe.cls = .ref C ∧ oe.data = .fields #[a0, .none, .none, c3, c4, c5] ∧
    match hd with
    | none => E (.ref e) s₁
    | some h1 => ∃ e1 o1 C1 T1, h1 = .ref e1 ∧ e1 ≠ e ∧ s₁.heap.get? e1 = some o1 ∧ FlyO C1 T1 .none o1 ∧ E (.ref e) { s₁ with heap := s₁.heap.update e (Obj.mapFields (·.setIfInBounds 2 (.ref e1))) }
theorem raiseNew_in {e e1 C1 T1 : Addr} {oe o1 : Obj} {vs : Array Value} {Q : Flow → Shared → Prop} (hh : A.handled = some (.ref e1)) (hne : e1 ≠ e) (he : s.heap.get? e = some oe) (hd : oe.data = .fields vs) (hz : 2 < vs.size) (h1 : s.heap.get? e1 = some o1) (hF : FlyO C1 T1 .none o1)
    (h : E (.ref e) { s with heap := s.heap.update e (Obj.mapFields (·.setIfInBounds 2 (.ref e1))) }) : wpAny (model prog w) A (raiseNew (.ref e) : Sem Flow) Q E s := by
  obtain ⟨hc1, a0, c3, c4, c5, hd1⟩ := hF
  unfold raiseNew
  refine wpAny_bind (wpAny_handled ?_)
  rw [hh]
  dsimp only
  rw [if_pos (by simpa using hne)]
  have ent : entryFor table "proto.unchain" = some Builtin.«proto.unchain» := entryFor_of_tree (by kernel_rfl)
  refine wpAny_bind (wpAny_holding (wpAny_runValue (codeAny_builtin ent ?_)))
  unfold Builtin.«proto.unchain»
  refine wpAny_bind (wpAny_field h1 hd1 (x := .none) rfl ?_)
  rw [if_pos (by decide)]
  refine wpAny_bind (wpAny_pure ?_)
  refine wpAny_pure ?_
  show wpAny (model prog w) A (updateField e 2 (.ref e1) >>= fun _ => throw (.ref e)) Q E s
  unfold updateField
  refine wpAny_bind (wpAny_bind (wpAny_load he ?_))
  rw [hd]
  dsimp only
  rw [if_pos hz]
  exact wpAny_update he (wpAny_throw h)
theorem raise_rule {x : Expr} {pos : Pos} (h : wpAny (model prog w) A (eval x env) (RaisesV w A.handled E) E s) : wpAny (model prog w) A (exec (.Raise (some x) none pos) env) Q E s := by
  rw [arm_exec_Raise]
  simp only [evalOpt, Option.map]
  refine wpAny_bind (wpAny_standAt ?_)
  unfold raiseStmt
  dsimp only
  refine wpAny_bind (wpAny_bind (wpAny_mono h (fun v s₁ q => ?_) fun _ _ z => z))
  refine wpAny_bind (wpAny_standAt (wpAny_pure ?_))
  obtain ⟨e, oe, C, a0, c3, c4, c5, rfl, X, hC, he, hcls, hd, q⟩ := q
  obtain ⟨nm, qn, N', bs, hdct, sn, sub, ab, col, dd, k0, k1, k2, k3, k5, hCl⟩ := x_at X (x_in (p := w.params) hC)
  obtain ⟨hp, g, d, tk, os⟩ := s₁
  obtain ⟨oc, od, oda, osl⟩ := oe
  dsimp only at X he hcls hd hCl q
  subst hcls hd
  have b1 : (Value.ref C :: xTail).contains (.type "BaseException") = true := by unfold xTail; simp
  repeat (first | with_reducible refine wpAny_loadPart_at he ?_ | with_reducible refine wpAny_loadPart_at hCl ?_ | (with_reducible refine wpAny_isSubtype_exc hCl ?_; rw [b1]) | wp_step)
  cases hh : A.handled with
  | none => rw [hh] at q; exact wpAny_raiseNew_none hh q
  | some h1 =>
    rw [hh] at q
    obtain ⟨e1, o1, C1, T1, rfl, hne, ho1, hF, q⟩ := q
    exact raiseNew_in hh hne he rfl (by simp) ho1 hF q
end
end
section
theorem off_NzY6 : True := by
  w_top off
  trivial
open PySem PySem.W PySem.Calls PyProof.Rows PySem.Builtin
section
variable {w : World} {M : Model} {A : Around} {base g g₁ : Heap} {env envC : Env} {outer : List Env} {L' e C : Addr} {m' : Str → Option Value} {mean : ExcName → Option Value} {mg mb : Str → Option Value} {keep led : Led} {s s' : Shared} {oe : Obj} {t : Value} {Exc : Addr → Value → Prop} {hd : Option Value}
theorem raisesV_raw (hh : hd = none) (Tn : Turned w A base (env :: outer) mean mg mb g g₁) (F : Fr g₁ L' s'.heap m') (N : News g₁ L' s'.heap ((e, oe) :: led)) (hC : C = 45 ∨ C = 57) (hs : ∀ p ∈ keep, p ∈ led) (hne : ∀ p ∈ led, p.1 < e) (hc : oe.cls = .ref C) (hdt : oe.data = .fields #[t, .none, .none, .none, .bool false, .none]) (hX : Exc C .none)
    (hf : envC.frame = some L') (hk : envC.scope.kind = .function) (S1 : s'.gens = s.gens) (S2 : s'.drawn = s.drawn) (S3 : s'.os = s.os) :
    RaisesV w hd (RaiX M (A.deeper envC) envC g (env :: outer) keep Exc s) (.ref e) s' := by
  subst hh
  exact ⟨e, oe, C, t, .none, .bool false, .none, rfl, Tn.inn.keeps F.keep, hC, (N _ (.head _)).1, hc, hdt, rai_raw Tn F N hs (fun p hp => Nat.ne_of_lt (hne p hp)) ⟨hc, t, .none, .bool false, .none, hdt⟩ hX S1 S2 S3 hf hk⟩
end
theorem ediv_pos {a b : Int} (hb : 0 < b) (h : b ≤ a) : 0 < a / b := by
  have : 1 ≤ a / b := Int.le_ediv_of_mul_le hb (by omega)
  omega
theorem ediv_small {a b n : Int} (ha : 0 ≤ a) (hb : 0 < b) (h : a < n) : a / b < n := Int.lt_of_le_of_lt (Int.ediv_le_self _ ha) h
end
section
theorem off_NzY7 : True := by
  w_top off
  trivial
open PySem PySem.W PySem.Calls PyProof.Rows PySem.Builtin
/-- the sizes of a disk, as the text reckons them -/
abbrev rowI (e : Int) : Int := 12 + 4 * (e + 1)
abbrev rowsI (a e : Int) : Int := a / (12 + 4 * (e + 1))
abbrev bitI (a c d e : Int) : Int := 2 + d + (c + a / (12 + 4 * (e + 1)) - 1) / (a / (12 + 4 * (e + 1)))
abbrev datI (a b c d e : Int) : Int := 2 + d + (c + a / (12 + 4 * (e + 1)) - 1) / (a / (12 + 4 * (e + 1))) + (b + 8 * a - 1) / (8 * a)
/-- they go together -/
def okI (a b c d e : Int) : Prop := 1 ≤ e ∧ 12 + 4 * (e + 1) ≤ a ∧ 36 ≤ a ∧ a % 16 = 0 ∧ 2 ≤ c ∧ 2 ≤ d ∧ 1 ≤ b ∧ datI a b c d e < b
abbrev superD (p : Params) (a b c d e : Int) (k1 k2 k3 k4 k5 k6 k7 k8 k9 k10 k11 k12 t1 t2 t3 t4 t5 t6 t7 t8 t9 t10 t11 t12 : Tok) (n : Nat) : Obj := dictOf [{ hash := PyData.keyHash p (Str.ofString "block"), key := .str (Str.ofString "block") k1, val := .int (a) t1 }, { hash := PyData.keyHash p (Str.ofString "blocks"), key := .str (Str.ofString "blocks") k2, val := .int (b) t2 }, { hash := PyData.keyHash p (Str.ofString "inodes"), key := .str (Str.ofString "inodes") k3, val := .int (c) t3 }, { hash := PyData.keyHash p (Str.ofString "log"), key := .str (Str.ofString "log") k4, val := .int (d) t4 }, { hash := PyData.keyHash p (Str.ofString "direct"), key := .str (Str.ofString "direct") k5, val := .int (e) t5 }, { hash := PyData.keyHash p (Str.ofString "row"), key := .str (Str.ofString "row") k6, val := .int (rowI e) t6 }, { hash := PyData.keyHash p (Str.ofString "rows"), key := .str (Str.ofString "rows") k7, val := .int (rowsI a e) t7 }, { hash := PyData.keyHash p (Str.ofString "indirect"), key := .str (Str.ofString "indirect") k8, val := .int (a / 4) t8 }, { hash := PyData.keyHash p (Str.ofString "log_start"), key := .str (Str.ofString "log_start") k9, val := .int (2) t9 }, { hash := PyData.keyHash p (Str.ofString "inode_start"), key := .str (Str.ofString "inode_start") k10, val := .int (2 + d) t10 }, { hash := PyData.keyHash p (Str.ofString "bitmap_start"), key := .str (Str.ofString "bitmap_start") k11, val := .int (bitI a c d e) t11 }, { hash := PyData.keyHash p (Str.ofString "data_start"), key := .str (Str.ofString "data_start") k12, val := .int (datI a b c d e) t12 }] n
def IsSuper (p : Params) (a b c d e : Int) (D : Obj) : Prop := ∃ k1 k2 k3 k4 k5 k6 k7 k8 k9 k10 k11 k12 t1 t2 t3 t4 t5 t6 t7 t8 t9 t10 t11 t12 n, D = superD p a b c d e k1 k2 k3 k4 k5 k6 k7 k8 k9 k10 k11 k12 t1 t2 t3 t4 t5 t6 t7 t8 t9 t10 t11 t12 n
end
section
local macro_rules | `(tactic| walk_at $s:str) => `(tactic| k_extra $(Lean.Syntax.mkStrLit ("44 " ++ s.getString)))
local macro_rules | `(tactic| walk_at "nz pad") => `(tactic| skip)
theorem off_NzS1 : True := by
  w_top off
  trivial
open PySem PySem.W PySem.Calls PyProof.Rows
theorem kw0_NzS1 : True := by
  k_with "44 nz pq" => k_extra "L0"
  k_with "44 nz pn" => k_extra "L1"
  k_with "44 nz pi" => k_extra "L2"
  k_with "44 nz pr" => k_extra "L3"
  k_with "44 nz oo" => k_extra "L4"
  k_with "44 nz zz" => k_extra "L5"
  k_with "44 nz om" => k_extra "L6"
  k_with "44 nz enter" => k_extra "L7"
  k_with "44 nz intro" => k_extra "L8"
  k_with "44 nz go" => k_extra "L9"
  k_with "44 nz end" => k_extra "L10"
  k_with "44 subscriptTail" => k_extra "L11"
  k_with "44 setItem ref int" => k_extra "L12"
  k_with "44 nz side" => k_extra "L13"
  k_with "44 nz pick" => k_extra "L14"
  k_with "44 nz sub" => k_extra "L15"
  k_with "44 nz news" => k_extra "L16"
  k_with "44 nz same" => k_extra "L17"
  k_with "44 nz out" => k_extra "L18"
  k_with "44 nz len" => k_extra "L19"
  k_with "44 getMethod str" => k_extra "L30"
  k_with "44 call builtin:str.encode" => k_extra "L31"
  k_with "44 call type:bytes" => k_extra "L32"
  k_with "44 call type:bytes" => k_extra "L33"
  k_with "44 call type:bytes" => k_extra "L34"
  k_with "44 call builtin:isinstance" => k_extra "L35"
  k_with "44 nz size" => k_extra "L36"
  k_with "44 exec Raise some none" => k_extra "L76"
  k_with "44 call ref" => k_extra "L77"
  k_with "44 nz raise" => k_extra "L78"
  k_with "44 nz exc" => k_extra "L79"
  k_with "44 nz exc" => k_extra "L80"
  k_with "44 nz outX" => k_extra "L81"
  k_with "44 nz steps" => k_extra "L82"
  k_with "44 nz den" => k_extra "L83"
  k_with "44 binaryOp FloorDiv int int" => k_extra "L24"
  k_with "44 binaryOp Mod int int" => k_extra "L25"
  k_with "44 call ref" => k_extra "L84"
  trivial
namespace IniH
def SS (w : World) (a : Int) (b : Int) (c : Int) (d : Int) (e : Int) (ta : Tok) (tb : Tok) (tc : Tok) (td : Tok) (te : Tok) (x : Addr) (dx : Addr) (rest : Led) : Prop := 0 ≤ a → a ≤ 2000 → 0 ≤ b → b < 4294967296 → 0 ≤ c → c < 4294967296 → 0 ≤ d → d < 4294967296 → 0 ≤ e → e < 4294967296 → (∀ p ∈ rest, p.1 < dx) → @LT.lt Nat instLTNat dx x → CtrX w (.ref 109) [.ref x, .int a ta, .int b tb, .int c tc, .int d td, .int e te] 12 60 ((x, instObj 154 dx) :: (dx, emptyDict) :: rest) rest (fun r l => r = .none ∧ okI a b c d e ∧ ∃ D, IsSuper w.params a b c d e D ∧ l = ((x, instObj 154 dx) :: (dx, D) :: rest)) (fun C c2 => C = 45 ∧ c2 = .none ∧ ¬ okI a b c d e)
noncomputable def kk : World × Int × Int × Int × Int × Int × Tok × Tok × Tok × Tok × Tok × Addr × Addr × Led := Classical.epsilon fun y => ¬ SS y.1 y.2.1 y.2.2.1 y.2.2.2.1 y.2.2.2.2.1 y.2.2.2.2.2.1 y.2.2.2.2.2.2.1 y.2.2.2.2.2.2.2.1 y.2.2.2.2.2.2.2.2.1 y.2.2.2.2.2.2.2.2.2.1 y.2.2.2.2.2.2.2.2.2.2.1 y.2.2.2.2.2.2.2.2.2.2.2.1 y.2.2.2.2.2.2.2.2.2.2.2.2.1 y.2.2.2.2.2.2.2.2.2.2.2.2.2
@[irreducible] noncomputable def w : World := kk.1
@[irreducible] noncomputable def a : Int := kk.2.1
@[irreducible] noncomputable def b : Int := kk.2.2.1
@[irreducible] noncomputable def c : Int := kk.2.2.2.1
@[irreducible] noncomputable def d : Int := kk.2.2.2.2.1
@[irreducible] noncomputable def e : Int := kk.2.2.2.2.2.1
@[irreducible] noncomputable def ta : Tok := kk.2.2.2.2.2.2.1
@[irreducible] noncomputable def tb : Tok := kk.2.2.2.2.2.2.2.1
@[irreducible] noncomputable def tc : Tok := kk.2.2.2.2.2.2.2.2.1
@[irreducible] noncomputable def td : Tok := kk.2.2.2.2.2.2.2.2.2.1
@[irreducible] noncomputable def te : Tok := kk.2.2.2.2.2.2.2.2.2.2.1
@[irreducible] noncomputable def x : Addr := kk.2.2.2.2.2.2.2.2.2.2.2.1
@[irreducible] noncomputable def dx : Addr := kk.2.2.2.2.2.2.2.2.2.2.2.2.1
@[irreducible] noncomputable def rest : Led := kk.2.2.2.2.2.2.2.2.2.2.2.2.2
noncomputable def yy : Fm := Classical.epsilon fun y => ¬ PremX w 109 [.ref x, .int a ta, .int b tb, .int c tc, .int d td, .int e te] 12 60 ((x, instObj 154 dx) :: (dx, emptyDict) :: rest) rest (fun r l => r = .none ∧ okI a b c d e ∧ ∃ D, IsSuper w.params a b c d e D ∧ l = ((x, instObj 154 dx) :: (dx, D) :: rest)) (fun C c2 => C = 45 ∧ c2 = .none ∧ ¬ okI a b c d e) y
end IniH
open IniH in
theorem IniH.main (ha : 0 ≤ a) (ha2 : a ≤ 2000) (hb : 0 ≤ b) (hb2 : b < 4294967296) (hc : 0 ≤ c) (hc2 : c < 4294967296) (hd : 0 ≤ d) (hd2 : d < 4294967296) (he : 0 ≤ e) (he2 : e < 4294967296) (hr : ∀ p ∈ rest, p.1 < dx) (hx : @LT.lt Nat instLTNat dx x) : PremX w 109 [.ref x, .int a ta, .int b tb, .int c tc, .int d td, .int e te] 12 60 ((x, instObj 154 dx) :: (dx, emptyDict) :: rest) rest (fun r l => r = .none ∧ okI a b c d e ∧ ∃ D, IsSuper w.params a b c d e D ∧ l = ((x, instObj 154 dx) :: (dx, D) :: rest)) (fun C c2 => C = 45 ∧ c2 = .none ∧ ¬ okI a b c d e) yy := by
  k_dflt (refine' premX_of ?k6 ?hb ?_; (case k6 => (with_unfolding_all rfl)); (case hb => (with_unfolding_all rfl)); k_whole)
  k_fill
  intro B F X N T XB TB D hd hu
  (try dsimp only)
  k_fold
  k_steps
  refine' endX_of ?F (turned_refl ?B ?X ?T ?D) ?P ?N rfl rfl rfl
  case F => k_asm
  case B => k_asm
  case X => k_asm
  case T => k_asm
  case D => assumption
  case N => k_asm
  case P => exact ⟨rfl, ⟨by omega, by omega, by omega, by omega, by omega, by omega, by omega, by (dsimp only [datI]; omega)⟩, _, ⟨_, _, _, _, _, _, _, _, _, _, _, _, _, _, _, _, _, _, _, _, _, _, _, _, _, rfl⟩, rfl⟩
open IniH in
theorem IniH.fin (ha : 0 ≤ a) (ha2 : a ≤ 2000) (hb : 0 ≤ b) (hb2 : b < 4294967296) (hc : 0 ≤ c) (hc2 : c < 4294967296) (hd : 0 ≤ d) (hd2 : d < 4294967296) (he : 0 ≤ e) (he2 : e < 4294967296) (hr : ∀ p ∈ rest, p.1 < dx) (hx : @LT.lt Nat instLTNat dx x) : CtrX w (.ref 109) [.ref x, .int a ta, .int b tb, .int c tc, .int d td, .int e te] 12 60 ((x, instObj 154 dx) :: (dx, emptyDict) :: rest) rest (fun r l => r = .none ∧ okI a b c d e ∧ ∃ D, IsSuper w.params a b c d e D ∧ l = ((x, instObj 154 dx) :: (dx, D) :: rest)) (fun C c2 => C = 45 ∧ c2 = .none ∧ ¬ okI a b c d e) := by
  have h : ∀ y, PremX w 109 [.ref x, .int a ta, .int b tb, .int c tc, .int d td, .int e te] 12 60 ((x, instObj 154 dx) :: (dx, emptyDict) :: rest) rest (fun r l => r = .none ∧ okI a b c d e ∧ ∃ D, IsSuper w.params a b c d e D ∧ l = ((x, instObj 154 dx) :: (dx, D) :: rest)) (fun C c2 => C = 45 ∧ c2 = .none ∧ ¬ okI a b c d e) y := henk (IniH.main ha ha2 hb hb2 hc hc2 hd hd2 he he2 hr hx)
  k_dflt (refine' ctrX_def (binds := [(Str.ofString "self", .ref x), (Str.ofString "block", .int a ta), (Str.ofString "blocks", .int b tb), (Str.ofString "inodes", .int c tc), (Str.ofString "log", .int d td), (Str.ofString "direct", .int e te)]) ?k6 ?k7 ?k9 ?kB ?c2 ?c3 ?c4 ?c5 ?_ ?c6; (case k6 => (with_unfolding_all rfl)); (case k7 => (with_unfolding_all rfl)); (case k9 => (intro s X; first | exact BindsTo.of_eq rfl | exact binds_K X rfl (by with_unfolding_all rfl) rfl rfl rfl)); (case kB => exact locs rfl); (case c2 => exact rfl); (case c3 => exact rfl); (case c4 => exact rfl); (case c5 => decide); (case c6 => decide); k_whole)
  intro mean mg mb dp un gd env outer base g L s B F X N T XB TB D hd hu
  (with_unfolding_all refine' h ⟨mean, mg, mb, dp, un, gd, env, outer, base, g, L, s⟩ _ _ _ _ _ _ _ _ _ _ _ _ _ _ _ ?k6 ?zB ?zF ?zX ?zN ?zT ?zXB ?zTB ?zD ?zhd ?zhu)
  (case k6 => with_unfolding_all rfl)
  (case zB => with_unfolding_all exact B)
  (case zF => with_unfolding_all exact F)
  (case zX => with_unfolding_all exact X)
  (case zN => with_unfolding_all exact N)
  (case zT => with_unfolding_all exact T)
  (case zXB => with_unfolding_all exact XB)
  (case zTB => with_unfolding_all exact TB)
  (case zD => with_unfolding_all exact D)
  (case zhd => with_unfolding_all exact hd)
  (case zhu => with_unfolding_all exact hu)
theorem c_init (w : World) (a : Int) (b : Int) (c : Int) (d : Int) (e : Int) (ta : Tok) (tb : Tok) (tc : Tok) (td : Tok) (te : Tok) (ha : 0 ≤ a) (ha2 : a ≤ 2000) (hb : 0 ≤ b) (hb2 : b < 4294967296) (hc : 0 ≤ c) (hc2 : c < 4294967296) (hd : 0 ≤ d) (hd2 : d < 4294967296) (he : 0 ≤ e) (he2 : e < 4294967296) (x : Addr) (dx : Addr) (rest : Led) (hr : ∀ p ∈ rest, p.1 < dx) (hx : @LT.lt Nat instLTNat dx x) : CtrX w (.ref 109) [.ref x, .int a ta, .int b tb, .int c tc, .int d td, .int e te] 12 60 ((x, instObj 154 dx) :: (dx, emptyDict) :: rest) rest (fun r l => r = .none ∧ okI a b c d e ∧ ∃ D, IsSuper w.params a b c d e D ∧ l = ((x, instObj 154 dx) :: (dx, D) :: rest)) (fun C c2 => C = 45 ∧ c2 = .none ∧ ¬ okI a b c d e) := by
  refine henk (P := fun y => IniH.SS y.1 y.2.1 y.2.2.1 y.2.2.2.1 y.2.2.2.2.1 y.2.2.2.2.2.1 y.2.2.2.2.2.2.1 y.2.2.2.2.2.2.2.1 y.2.2.2.2.2.2.2.2.1 y.2.2.2.2.2.2.2.2.2.1 y.2.2.2.2.2.2.2.2.2.2.1 y.2.2.2.2.2.2.2.2.2.2.2.1 y.2.2.2.2.2.2.2.2.2.2.2.2.1 y.2.2.2.2.2.2.2.2.2.2.2.2.2) ?_ (w, a, b, c, d, e, ta, tb, tc, td, te, x, dx, rest) ha ha2 hb hb2 hc hc2 hd hd2 he he2 hr hx
  intro ha ha2 hb hb2 hc hc2 hd hd2 he he2 hr hx
  with_unfolding_all exact IniH.fin ha ha2 hb hb2 hc hc2 hd hd2 he he2 hr hx
end
section
theorem off_NzS2 : True := by
  w_top off
  trivial
open PySem PySem.W PySem.Calls PyProof.Rows PySem.Builtin
/-- a call of the class Super -/
theorem c_super (w : World) (a b c d e : Int) (ta tb tc td te : Tok) (ha : 0 ≤ a) (ha2 : a ≤ 2000) (hb : 0 ≤ b) (hb2 : b < 4294967296) (hc : 0 ≤ c) (hc2 : c < 4294967296) (hd : 0 ≤ d) (hd2 : d < 4294967296) (he : 0 ≤ e) (he2 : e < 4294967296) (rest : Led) :
    CtrX w (.ref 154) [.int a ta, .int b tb, .int c tc, .int d td, .int e te] 20 80 rest rest
      (fun r l => okI a b c d e ∧ ∃ x dx D, r = .ref x ∧ (∀ p ∈ rest, p.1 < dx) ∧ @LT.lt Nat instLTNat dx x ∧ IsSuper w.params a b c d e D ∧ l = ((x, instObj 154 dx) :: (dx, D) :: rest))
      (fun C c2 => C = 45 ∧ c2 = .none ∧ ¬ okI a b c d e) := by
  intro mean mg mb dp un gd A₀ env outer base h₀ L m s Q E B F X N T XB TB D hf hke hdp hun hQ hE
  have hm : makesIn (NzH.hd.heap_39 w.params) 154 = true := by kernel_rfl
  have hi : findIn (NzH.hd.heap_39 w.params) (.ref 154) (Str.ofString "__init__") = some (some (.ref 109)) := by kernel_rfl
  have hfn : typeIn (NzH.hd.heap_39 w.params) (.ref 109) = some (.type "function") := by kernel_rfl
  refine make_K F N (X.keeps F.keep) hm hi hfn fun x dx h' F' N' l1 l2 => ?_
  have C := c_init w a b c d e ta tb tc td te ha ha2 hb hb2 hc hc2 hd hd2 he he2 x dx rest l1 l2
  have hw : (Code.builtin "type.__call__" ⟨[.ref 154, .int a ta, .int b tb, .int c tc, .int d td, .int e te], []⟩).weight ≤ 5 := Nat.le_of_ble_eq_true rfl
  have hcu : (Code.builtin "type.__call__" ⟨[.ref 154, .int a ta, .int b tb, .int c tc, .int d td, .int e te], []⟩).cUnits ≤ 10 := Nat.le_of_ble_eq_true rfl
  have := C mean mg mb (dp + (Code.builtin "type.__call__" ⟨[.ref 154, .int a ta, .int b tb, .int c tc, .int d td, .int e te], []⟩).weight) (un + (Code.builtin "type.__call__" ⟨[.ref 154, .int a ta, .int b tb, .int c tc, .int d td, .int e te], []⟩).cUnits)
    (pushGuards (Code.builtin "type.__call__" ⟨[.ref 154, .int a ta, .int b tb, .int c tc, .int d td, .int e te], []⟩).guards gd) A₀ env outer base h₀ L m { s with heap := h' }
    (fun v s' => v = .none ∧ Q (.ref x) s') E B F' X N' T XB TB D hf hke (by omega) (by omega)
    (fun r news' h₁ h₂ tk hP Tn F₁ N₁ => by
      obtain ⟨rfl, ok, D', hD, rfl⟩ := hP
      exact ⟨rfl, hQ _ _ _ _ _ ⟨ok, x, dx, D', rfl, l1, l2, hD, rfl⟩ Tn F₁ N₁⟩)
    (fun C c2 e' oe T' oT h₁ h₂ tk hX Tn F₁ N₁ hF hT eT ne => hE C c2 e' oe T' oT h₁ h₂ tk hX Tn F₁ N₁ hF hT eT ne)
  refine codeAny_mono this fun r s' z => ?_
  rcases r with ev | (v | _ | _ | _) <;> exact z
end
section
local macro_rules | `(tactic| walk_at $s:str) => `(tactic| k_extra $(Lean.Syntax.mkStrLit ("46 " ++ s.getString)))
local macro_rules | `(tactic| walk_at "nz pad") => `(tactic| skip)
local macro_rules | `(tactic| walk_at "nz pad") => `(tactic| skip)
theorem off_NzT1 : True := by
  w_top off
  trivial
open PySem PySem.W PySem.Calls PyProof.Rows
theorem kw0_NzT1 : True := by
  k_with "46 nz pq" => k_extra "L0"
  k_with "46 nz pn" => k_extra "L1"
  k_with "46 nz pi" => k_extra "L2"
  k_with "46 nz pr" => k_extra "L3"
  k_with "46 nz oo" => k_extra "L4"
  k_with "46 nz zz" => k_extra "L5"
  k_with "46 nz om" => k_extra "L6"
  k_with "46 nz enter" => k_extra "L7"
  k_with "46 nz intro" => k_extra "L8"
  k_with "46 nz go" => k_extra "L9"
  k_with "46 nz end" => k_extra "L10"
  k_with "46 subscriptTail" => k_extra "L11"
  k_with "46 setItem ref int" => k_extra "L12"
  k_with "46 nz side" => k_extra "L13"
  k_with "46 nz pick" => k_extra "L14"
  k_with "46 nz sub" => k_extra "L15"
  k_with "46 nz news" => k_extra "L16"
  k_with "46 nz same" => k_extra "L17"
  k_with "46 nz out" => k_extra "L18"
  k_with "46 nz len" => k_extra "L19"
  k_with "46 getMethod str" => k_extra "L30"
  k_with "46 call builtin:str.encode" => k_extra "L31"
  k_with "46 call type:bytes" => k_extra "L32"
  k_with "46 call type:bytes" => k_extra "L33"
  k_with "46 call type:bytes" => k_extra "L34"
  k_with "46 call builtin:isinstance" => k_extra "L35"
  k_with "46 nz size" => k_extra "L36"
  k_with "46 exec Raise some none" => k_extra "L76"
  k_with "46 call ref" => k_extra "L77"
  k_with "46 nz raise" => k_extra "L78"
  k_with "46 nz exc" => k_extra "L79"
  k_with "46 nz exc" => k_extra "L80"
  k_with "46 nz outX" => k_extra "L81"
  k_with "46 nz steps" => k_extra "L82"
  k_with "46 nz den" => k_extra "L83"
  k_with "46 nz turned" => k_extra "L85"
  k_with "46 nz outX" => k_extra "L86"
  k_with "46 call ref" => k_extra "L87"
  k_with "46 noteFrame ref" => k_extra "L88"
  trivial
theorem c_told (w : World) (a b c d e : Int) (ta tb tc td te : Tok) (ha : 0 ≤ a) (ha2 : a ≤ 2000) (hb : 0 ≤ b) (hb2 : b < 4294967296) (hc : 0 ≤ c) (hc2 : c < 4294967296) (hd : 0 ≤ d) (hd2 : d < 4294967296) (he : 0 ≤ e) (he2 : e < 4294967296) (rest : Led) :
    CtrX w (.ref 252) [.int a ta, .int b tb, .int c tc, .int d td, .int e te] 25 90 rest rest (fun r l => (okI a b c d e ∧ ∃ x dx D, r = .ref x ∧ (∀ p ∈ rest, p.1 < dx) ∧ @LT.lt Nat instLTNat dx x ∧ IsSuper w.params a b c d e D ∧ l = ((x, instObj 154 dx) :: (dx, D) :: rest)) ∨ (¬ okI a b c d e ∧ r = .none ∧ l = rest)) (fun C c2 => False) := by
  k_dflt (refine' ctrX_def (binds := [(Str.ofString "block", .int a ta), (Str.ofString "blocks", .int b tb), (Str.ofString "inodes", .int c tc), (Str.ofString "log", .int d td), (Str.ofString "direct", .int e te)]) ?k6 ?k7 ?k9 ?kB ?c2 ?c3 ?c4 ?c5 ?_ ?c6; (case k6 => (with_unfolding_all rfl)); (case k7 => (with_unfolding_all rfl)); (case k9 => (intro s X; first | exact BindsTo.of_eq rfl | exact binds_K X rfl (by with_unfolding_all rfl) rfl rfl rfl)); (case kB => exact locs rfl); (case c2 => exact rfl); (case c3 => exact rfl); (case c4 => exact rfl); (case c5 => decide); (case c6 => decide); k_whole)
  k_fill
  intro mean mg mb dp un gd env outer base g L s B F X N T XB TB D hd hu
  (try dsimp only)
  k_fold
  have Tn0 := turned_refl (w := w) B X T D
  k_steps
  · walk_at "nz outX"
    case P => exact .inr ⟨by assumption, rfl, rfl⟩
    case N => walk_at "nz news"
  · walk_at "nz outX"
    case N => k_asm
    case P => exact .inl ⟨by assumption, _, _, _, rfl, by assumption, by assumption, by assumption, rfl⟩
end
section
theorem off_NzU0 : True := by
  w_top off
  trivial
open PySem PySem.W PySem.Calls PyProof.Rows PySem.Builtin
theorem bitAnd_m3 {x : Int} (hx : 0 ≤ x) : Builtin.bitAnd x 7 = x % 8 := by
  rw [bitAnd_pp hx (by decide)]
  have h : x.toNat &&& (7 : Int).toNat = x.toNat % 8 := Nat.and_two_pow_sub_one_eq_mod x.toNat 3
  rw [h]
  omega
section
variable {prog : Program} {w : World} {A : Around} {E : Value → Shared → Prop} {s : Shared} {a b : Int} {t u : Tok}
theorem shr3_rule {Q : Value → Shared → Prop} (h0 : 0 ≤ a) (h : Q (.int (a / 8) s.toks) { s with toks := s.toks + 1 }) : wpAny (model prog w) A (binaryOp .RShift (.int a t) (.int 3 u)) Q E s :=
  rshift_int (by decide) (by rw [Int.fdiv_eq_ediv_of_nonneg _ (by decide)]; exact h)
theorem and7_rule {Q : Value → Shared → Prop} (h0 : 0 ≤ a) (h : Q (.int (a % 8) s.toks) { s with toks := s.toks + 1 }) : wpAny (model prog w) A (binaryOp .BitAnd (.int a t) (.int 7 u)) Q E s :=
  and_int (by rw [bitAnd_m3 h0]; exact h)
theorem shl_rule {Q : Value → Shared → Prop} (h0 : 0 ≤ b) (h1 : b ≤ 1000) (h : Q (.int (2 ^ b.toNat) s.toks) { s with toks := s.toks + 1 }) : wpAny (model prog w) A (binaryOp .LShift (.int 1 t) (.int b u)) Q E s :=
  lshift_int_small h0 (by omega) (by decide) (by rw [Int.one_mul]; exact h)
end
end
section
local macro_rules | `(tactic| walk_at $s:str) => `(tactic| k_extra $(Lean.Syntax.mkStrLit ("48 " ++ s.getString)))
theorem off_NzU1 : True := by
  w_top off
  trivial
open PySem PySem.W PySem.Calls PyProof.Rows
theorem kw0_NzU1 : True := by
  k_with "48 nz pq" => k_extra "L0"
  k_with "48 nz pn" => k_extra "L1"
  k_with "48 nz pi" => k_extra "L2"
  k_with "48 nz pr" => k_extra "L3"
  k_with "48 nz oo" => k_extra "L4"
  k_with "48 nz zz" => k_extra "L5"
  k_with "48 nz om" => k_extra "L6"
  k_with "48 nz enter" => k_extra "L7"
  k_with "48 nz intro" => k_extra "L8"
  k_with "48 nz go" => k_extra "L9"
  k_with "48 nz end" => k_extra "L10"
  k_with "48 subscriptTail" => k_extra "L11"
  k_with "48 setItem ref int" => k_extra "L12"
  k_with "48 nz side" => k_extra "L13"
  k_with "48 nz pick" => k_extra "L14"
  k_with "48 nz sub" => k_extra "L15"
  k_with "48 nz news" => k_extra "L16"
  k_with "48 nz same" => k_extra "L17"
  k_with "48 nz out" => k_extra "L18"
  k_with "48 nz len" => k_extra "L19"
  k_with "48 getMethod str" => k_extra "L30"
  k_with "48 call builtin:str.encode" => k_extra "L31"
  k_with "48 call type:bytes" => k_extra "L32"
  k_with "48 call type:bytes" => k_extra "L33"
  k_with "48 call type:bytes" => k_extra "L34"
  k_with "48 call builtin:isinstance" => k_extra "L35"
  k_with "48 nz size" => k_extra "L36"
  k_with "48 binaryOp FloorDiv int int" => k_extra "L24"
  k_with "48 binaryOp Mod int int" => k_extra "L25"
  k_with "48 binaryOp RShift int int" => k_extra "L89"
  k_with "48 binaryOp BitAnd int int" => k_extra "L90"
  k_with "48 binaryOp LShift int int" => k_extra "L91"
  trivial
theorem c_most_blocks (w : World) (a b c d e : Int) (k1 k2 k3 k4 k5 k6 k7 k8 k9 k10 k11 k12 t1 t2 t3 t4 t5 t6 t7 t8 t9 t10 t11 t12 : Tok) (n : Nat) (x dx : Addr) (rest : Led) (ha : 0 ≤ a) (ha2 : a ≤ 2000) (hb : 0 ≤ b) (hb2 : b < 4294967296) (hc : 0 ≤ c) (hc2 : c < 4294967296) (hd : 0 ≤ d) (hd2 : d < 4294967296) (he : 0 ≤ e) (he2 : e < 4294967296) :
    Ctr w 116 [.ref x] 1 16 ((x, instObj 154 dx) :: (dx, superD w.params a b c d e k1 k2 k3 k4 k5 k6 k7 k8 k9 k10 k11 k12 t1 t2 t3 t4 t5 t6 t7 t8 t9 t10 t11 t12 n) :: rest) (fun r l => (∃ t, r = .int (e + a / 4) t) ∧ l = ((x, instObj 154 dx) :: (dx, superD w.params a b c d e k1 k2 k3 k4 k5 k6 k7 k8 k9 k10 k11 k12 t1 t2 t3 t4 t5 t6 t7 t8 t9 t10 t11 t12 n) :: rest)) NoE := by
  k_dflt (refine' ctr_def (binds := [(Str.ofString "self", .ref x)]) ?k6 ?k7 ?k9 ?kB ?c2 ?c3 ?c4 ?c5 ?_; (case k6 => (with_unfolding_all rfl)); (case k7 => (with_unfolding_all rfl)); (case k9 => exact rfl); (case kB => exact locs rfl); (case c2 => exact rfl); (case c3 => exact rfl); (case c4 => exact rfl); (case c5 => decide); k_whole)
  k_fill
  intro mean mg mb dp un gd env outer base g L s B F X N T hd hu
  (try dsimp only)
  dsimp only [superD, rowI, rowsI, bitI, datI] at N
  k_fold
  k_steps
  walk_at "nz out"
  case N => k_asm
  case P => exact ⟨⟨_, rfl⟩, rfl⟩
/-- the nine words, as a list of the ledger -/
abbrev duL (a b c d e : Int) (u1 u2 u3 u4 u5 u6 u7 u8 u9 : Tok) (n9 : Nat) : Obj := listOf #[.int (270544960) u1, .int (b) u2, .int (b - datI a b c d e) u3, .int (c) u4, .int (d) u5, .int (2) u6, .int (2 + d) u7, .int (bitI a c d e) u8, .int (e) u9] n9
theorem c_words (w : World) (a b c d e : Int) (k1 k2 k3 k4 k5 k6 k7 k8 k9 k10 k11 k12 t1 t2 t3 t4 t5 t6 t7 t8 t9 t10 t11 t12 : Tok) (n : Nat) (x dx : Addr) (rest : Led) (ha : 0 ≤ a) (ha2 : a ≤ 2000) (hb : 0 ≤ b) (hb2 : b < 4294967296) (hc : 0 ≤ c) (hc2 : c < 4294967296) (hd : 0 ≤ d) (hd2 : d < 4294967296) (he : 0 ≤ e) (he2 : e < 4294967296) :
    Ctr w 130 [.ref x] 1 16 ((x, instObj 154 dx) :: (dx, superD w.params a b c d e k1 k2 k3 k4 k5 k6 k7 k8 k9 k10 k11 k12 t1 t2 t3 t4 t5 t6 t7 t8 t9 t10 t11 t12 n) :: rest) (fun r l => ∃ fa u1 u2 u3 u4 u5 u6 u7 u8 u9 n9, r = .ref fa ∧ AllLt fa ((x, instObj 154 dx) :: (dx, superD w.params a b c d e k1 k2 k3 k4 k5 k6 k7 k8 k9 k10 k11 k12 t1 t2 t3 t4 t5 t6 t7 t8 t9 t10 t11 t12 n) :: rest) ∧ l = (fa, duL a b c d e u1 u2 u3 u4 u5 u6 u7 u8 u9 n9) :: ((x, instObj 154 dx) :: (dx, superD w.params a b c d e k1 k2 k3 k4 k5 k6 k7 k8 k9 k10 k11 k12 t1 t2 t3 t4 t5 t6 t7 t8 t9 t10 t11 t12 n) :: rest)) NoE := by
  k_dflt (refine' ctr_def (binds := [(Str.ofString "self", .ref x)]) ?k6 ?k7 ?k9 ?kB ?c2 ?c3 ?c4 ?c5 ?_; (case k6 => (with_unfolding_all rfl)); (case k7 => (with_unfolding_all rfl)); (case k9 => exact rfl); (case kB => exact locs rfl); (case c2 => exact rfl); (case c3 => exact rfl); (case c4 => exact rfl); (case c5 => decide); k_whole)
  k_fill
  intro mean mg mb dp un gd env outer base g L s B F X N T hd hu
  (try dsimp only)
  dsimp only [superD, rowI, rowsI, bitI, datI] at N
  k_fold
  k_steps
  walk_at "nz out"
  case N => k_asm
  case P => exact ⟨_, _, _, _, _, _, _, _, _, _, _, rfl, by assumption, rfl⟩
theorem kw1_NzU1 : True := by
  k_with "48 call ref" => k_extra "L92"
  trivial
theorem c_most_size (w : World) (a b c d e : Int) (k1 k2 k3 k4 k5 k6 k7 k8 k9 k10 k11 k12 t1 t2 t3 t4 t5 t6 t7 t8 t9 t10 t11 t12 : Tok) (n : Nat) (x dx : Addr) (rest : Led) (ha : 0 ≤ a) (ha2 : a ≤ 2000) (hb : 0 ≤ b) (hb2 : b < 4294967296) (hc : 0 ≤ c) (hc2 : c < 4294967296) (hd : 0 ≤ d) (hd2 : d < 4294967296) (he : 0 ≤ e) (he2 : e < 4294967296) :
    Ctr w 123 [.ref x] 2 32 ((x, instObj 154 dx) :: (dx, superD w.params a b c d e k1 k2 k3 k4 k5 k6 k7 k8 k9 k10 k11 k12 t1 t2 t3 t4 t5 t6 t7 t8 t9 t10 t11 t12 n) :: rest) (fun r l => (∃ t, r = .int (a * (e + a / 4)) t) ∧ l = ((x, instObj 154 dx) :: (dx, superD w.params a b c d e k1 k2 k3 k4 k5 k6 k7 k8 k9 k10 k11 k12 t1 t2 t3 t4 t5 t6 t7 t8 t9 t10 t11 t12 n) :: rest)) NoE := by
  k_dflt (refine' ctr_def (binds := [(Str.ofString "self", .ref x)]) ?k6 ?k7 ?k9 ?kB ?c2 ?c3 ?c4 ?c5 ?_; (case k6 => (with_unfolding_all rfl)); (case k7 => (with_unfolding_all rfl)); (case k9 => exact rfl); (case kB => exact locs rfl); (case c2 => exact rfl); (case c3 => exact rfl); (case c4 => exact rfl); (case c5 => decide); k_whole)
  k_fill
  intro mean mg mb dp un gd env outer base g L s B F X N T hd hu
  (try dsimp only)
  dsimp only [superD, rowI, rowsI, bitI, datI] at N
  k_fold
  k_steps
  walk_at "nz out"
  case N => k_asm
  case P => exact ⟨⟨_, rfl⟩, rfl⟩
theorem c_row_of (w : World) (a b c d e : Int) (k1 k2 k3 k4 k5 k6 k7 k8 k9 k10 k11 k12 t1 t2 t3 t4 t5 t6 t7 t8 t9 t10 t11 t12 : Tok) (n : Nat) (x dx : Addr) (rest : Led) (ha : 0 ≤ a) (ha2 : a ≤ 2000) (hb : 0 ≤ b) (hb2 : b < 4294967296) (hc : 0 ≤ c) (hc2 : c < 4294967296) (hd : 0 ≤ d) (hd2 : d < 4294967296) (he : 0 ≤ e) (he2 : e < 4294967296) (ok : okI a b c d e) (k : Int) (tk : Tok) (hk : 0 ≤ k) (hk2 : k < 4294967296) :
    Ctr w 144 [.ref x, .int k tk] 1 16 ((x, instObj 154 dx) :: (dx, superD w.params a b c d e k1 k2 k3 k4 k5 k6 k7 k8 k9 k10 k11 k12 t1 t2 t3 t4 t5 t6 t7 t8 t9 t10 t11 t12 n) :: rest) (fun r l => ∃ fa u1 u2 n9, r = .ref fa ∧ AllLt fa ((x, instObj 154 dx) :: (dx, superD w.params a b c d e k1 k2 k3 k4 k5 k6 k7 k8 k9 k10 k11 k12 t1 t2 t3 t4 t5 t6 t7 t8 t9 t10 t11 t12 n) :: rest) ∧ l = (fa, { cls := .type "tuple", data := .seq #[.int (2 + d + k / rowsI a e) u1, .int (k % rowsI a e * rowI e) u2] n9 }) :: ((x, instObj 154 dx) :: (dx, superD w.params a b c d e k1 k2 k3 k4 k5 k6 k7 k8 k9 k10 k11 k12 t1 t2 t3 t4 t5 t6 t7 t8 t9 t10 t11 t12 n) :: rest)) NoE := by
  k_dflt (refine' ctr_def (binds := [(Str.ofString "self", .ref x), (Str.ofString "number", .int k tk)]) ?k6 ?k7 ?k9 ?kB ?c2 ?c3 ?c4 ?c5 ?_; (case k6 => (with_unfolding_all rfl)); (case k7 => (with_unfolding_all rfl)); (case k9 => exact rfl); (case kB => exact locs rfl); (case c2 => exact rfl); (case c3 => exact rfl); (case c4 => exact rfl); (case c5 => decide); k_whole)
  k_fill
  intro mean mg mb dp un gd env outer base g L s B F X N T hd hu
  (try dsimp only)
  dsimp only [superD, rowI, rowsI, bitI, datI] at N
  k_fold
  have rp : 0 < rowsI a e := ediv_pos (by have := ok.1; omega) ok.2.1
  have rs : rowsI a e ≤ 2000 := Int.le_trans (Int.ediv_le_self _ ha) ha2
  have o1 := ok.1
  have o2 := ok.2.1
  dsimp only [rowsI] at rp rs
  k_steps
  walk_at "nz out"
  case N => k_asm
  case P => exact ⟨_, _, _, _, rfl, by assumption, rfl⟩
theorem c_bit_of (w : World) (a b c d e : Int) (k1 k2 k3 k4 k5 k6 k7 k8 k9 k10 k11 k12 t1 t2 t3 t4 t5 t6 t7 t8 t9 t10 t11 t12 : Tok) (n : Nat) (x dx : Addr) (rest : Led) (ha : 0 ≤ a) (ha2 : a ≤ 2000) (hb : 0 ≤ b) (hb2 : b < 4294967296) (hc : 0 ≤ c) (hc2 : c < 4294967296) (hd : 0 ≤ d) (hd2 : d < 4294967296) (he : 0 ≤ e) (he2 : e < 4294967296) (ok : okI a b c d e) (k : Int) (tk : Tok) (hk : 0 ≤ k) (hk2 : k < 4294967296) :
    Ctr w 151 [.ref x, .int k tk] 1 16 ((x, instObj 154 dx) :: (dx, superD w.params a b c d e k1 k2 k3 k4 k5 k6 k7 k8 k9 k10 k11 k12 t1 t2 t3 t4 t5 t6 t7 t8 t9 t10 t11 t12 n) :: rest) (fun r l => ∃ fa u1 u2 u3 n9, r = .ref fa ∧ AllLt fa ((x, instObj 154 dx) :: (dx, superD w.params a b c d e k1 k2 k3 k4 k5 k6 k7 k8 k9 k10 k11 k12 t1 t2 t3 t4 t5 t6 t7 t8 t9 t10 t11 t12 n) :: rest) ∧ l = (fa, { cls := .type "tuple", data := .seq #[.int (bitI a c d e + k / 8 / a) u1, .int (k / 8 % a) u2, .int (2 ^ (k % 8).toNat) u3] n9 }) :: ((x, instObj 154 dx) :: (dx, superD w.params a b c d e k1 k2 k3 k4 k5 k6 k7 k8 k9 k10 k11 k12 t1 t2 t3 t4 t5 t6 t7 t8 t9 t10 t11 t12 n) :: rest)) NoE := by
  k_dflt (refine' ctr_def (binds := [(Str.ofString "self", .ref x), (Str.ofString "number", .int k tk)]) ?k6 ?k7 ?k9 ?kB ?c2 ?c3 ?c4 ?c5 ?_; (case k6 => (with_unfolding_all rfl)); (case k7 => (with_unfolding_all rfl)); (case k9 => exact rfl); (case kB => exact locs rfl); (case c2 => exact rfl); (case c3 => exact rfl); (case c4 => exact rfl); (case c5 => decide); k_whole)
  k_fill
  intro mean mg mb dp un gd env outer base g L s B F X N T hd hu
  (try dsimp only)
  dsimp only [superD, rowI, rowsI, bitI, datI] at N
  k_fold
  have o1 := ok.1
  have o2 := ok.2.1
  k_steps
  walk_at "nz out"
  case N => k_asm
  case P => exact ⟨_, _, _, _, _, rfl, by assumption, rfl⟩
end
section
theorem off_NzU2 : True := by
  w_top off
  trivial
open PySem PySem.W PySem.Calls PyProof.Rows
/-- a call that reads what is needed and makes new objects -/
def CtrN (w : World) (f : Addr) (vs : List Value) (d u : Nat) (need : Led) (P : Value → Led → Prop) : Prop :=
  ∀ rest : Led, Ctr w f vs d u (need ++ rest) (fun r l => ∃ new, P r new ∧ (∀ q ∈ new, AllLt q.1 (need ++ rest)) ∧ l = new ++ (need ++ rest)) NoE
theorem CtrN.use {w : World} {f : Addr} {vs : List Value} {d u : Nat} {need : Led} {P : Value → Led → Prop} (C : CtrN w f vs d u need P) {mean : ExcName → Option Value} {mg mb : Str → Option Value} {dp un : Nat} {gd : Option (List Code)} {A₀ : Around} {env : Env} {outer : List Env} {base h₀ : Heap} {L : Addr} {m : Str → Option Value} {s : Shared} {Q E : Value → Shared → Prop} {led : Led}
    (B : Below A₀ base outer h₀) (F : Fr h₀ L s.heap m) (X : (NzH.hd.heap_39 w.params).In h₀) (N : News h₀ L s.heap led)
    (T : Top NzH.hd.view_39 (looseW NzH.hd.view_39 [Str.ofString "BoardError", Str.ofString "Super"]) mean mg mb h₀)
    (hm : ∀ p ∈ need, p ∈ led) (hf : env.frame = some L) (hk : env.scope.kind = .function) (hd : dp + d < recursionLimit) (hu : un + u < cLine)
    (h : ∀ r new h' tk, P r new → (∀ q ∈ new, ∀ p ∈ led, p.1 < q.1) → Fr h₀ L h' m → News h₀ L h' (new ++ led) → Q r { s with heap := h', toks := tk }) :
    wpAny (model PySem.Challenge.rw_nz0212_01.row.prog w) (arK dp un gd env outer) (call (.ref f) vs) Q E s :=
  Ctr.use (C led) B F X N T (fun p hp => (List.mem_append.mp hp).elim (hm p) id) hf hk hd hu fun r l h' tk hP F' N' => by
    obtain ⟨new, hp, hlt, rfl⟩ := hP
    refine h r new h' tk hp (fun q hq p hpl => allLt_lt (hlt q hq) p (List.mem_append.mpr (.inr hpl))) F' fun p hp' => N' p ?_
    rcases List.mem_append.mp hp' with hp' | hp'
    · exact List.mem_append.mpr (.inl hp')
    · exact List.mem_append.mpr (.inr (List.mem_append.mpr (.inr hp')))
theorem n_most_blocks {w : World} {a b c d e : Int} {x dx : Addr} {D : Obj} (hD : IsSuper w.params a b c d e D) (ha : 0 ≤ a) (ha2 : a ≤ 2000) (hb : 0 ≤ b) (hb2 : b < 4294967296) (hc : 0 ≤ c) (hc2 : c < 4294967296) (hd : 0 ≤ d) (hd2 : d < 4294967296) (he : 0 ≤ e) (he2 : e < 4294967296)  : CtrN w 116 [.ref x] 1 16 [(x, instObj 154 dx), (dx, D)] (fun r new => (∃ t, r = .int (e + a / 4) t) ∧ new = []) := by
  obtain ⟨k1, k2, k3, k4, k5, k6, k7, k8, k9, k10, k11, k12, t1, t2, t3, t4, t5, t6, t7, t8, t9, t10, t11, t12, n, rfl⟩ := hD
  exact fun rest => (c_most_blocks w a b c d e k1 k2 k3 k4 k5 k6 k7 k8 k9 k10 k11 k12 t1 t2 t3 t4 t5 t6 t7 t8 t9 t10 t11 t12 n x dx rest ha ha2 hb hb2 hc hc2 hd hd2 he he2).mono fun r l hP => by
    obtain ⟨h1, rfl⟩ := hP
    exact ⟨[], ⟨h1, rfl⟩, (fun _ h => nomatch h), rfl⟩
theorem n_most_size {w : World} {a b c d e : Int} {x dx : Addr} {D : Obj} (hD : IsSuper w.params a b c d e D) (ha : 0 ≤ a) (ha2 : a ≤ 2000) (hb : 0 ≤ b) (hb2 : b < 4294967296) (hc : 0 ≤ c) (hc2 : c < 4294967296) (hd : 0 ≤ d) (hd2 : d < 4294967296) (he : 0 ≤ e) (he2 : e < 4294967296)  : CtrN w 123 [.ref x] 2 32 [(x, instObj 154 dx), (dx, D)] (fun r new => (∃ t, r = .int (a * (e + a / 4)) t) ∧ new = []) := by
  obtain ⟨k1, k2, k3, k4, k5, k6, k7, k8, k9, k10, k11, k12, t1, t2, t3, t4, t5, t6, t7, t8, t9, t10, t11, t12, n, rfl⟩ := hD
  exact fun rest => (c_most_size w a b c d e k1 k2 k3 k4 k5 k6 k7 k8 k9 k10 k11 k12 t1 t2 t3 t4 t5 t6 t7 t8 t9 t10 t11 t12 n x dx rest ha ha2 hb hb2 hc hc2 hd hd2 he he2).mono fun r l hP => by
    obtain ⟨h1, rfl⟩ := hP
    exact ⟨[], ⟨h1, rfl⟩, (fun _ h => nomatch h), rfl⟩
theorem n_words {w : World} {a b c d e : Int} {x dx : Addr} {D : Obj} (hD : IsSuper w.params a b c d e D) (ha : 0 ≤ a) (ha2 : a ≤ 2000) (hb : 0 ≤ b) (hb2 : b < 4294967296) (hc : 0 ≤ c) (hc2 : c < 4294967296) (hd : 0 ≤ d) (hd2 : d < 4294967296) (he : 0 ≤ e) (he2 : e < 4294967296)  : CtrN w 130 [.ref x] 1 16 [(x, instObj 154 dx), (dx, D)] (fun r new => ∃ fa u1 u2 u3 u4 u5 u6 u7 u8 u9 n9, r = .ref fa ∧ new = [(fa, duL a b c d e u1 u2 u3 u4 u5 u6 u7 u8 u9 n9)]) := by
  obtain ⟨k1, k2, k3, k4, k5, k6, k7, k8, k9, k10, k11, k12, t1, t2, t3, t4, t5, t6, t7, t8, t9, t10, t11, t12, n, rfl⟩ := hD
  exact fun rest => (c_words w a b c d e k1 k2 k3 k4 k5 k6 k7 k8 k9 k10 k11 k12 t1 t2 t3 t4 t5 t6 t7 t8 t9 t10 t11 t12 n x dx rest ha ha2 hb hb2 hc hc2 hd hd2 he he2).mono fun r l hP => by
    obtain ⟨fa, u1, u2, u3, u4, u5, u6, u7, u8, u9, n9, h1, h2, rfl⟩ := hP
    exact ⟨[_], ⟨fa, u1, u2, u3, u4, u5, u6, u7, u8, u9, n9, h1, rfl⟩, (fun q hq => by rw [List.mem_singleton.mp hq]; exact h2), rfl⟩
theorem n_row_of {w : World} {a b c d e : Int} {x dx : Addr} {D : Obj} (hD : IsSuper w.params a b c d e D) (ha : 0 ≤ a) (ha2 : a ≤ 2000) (hb : 0 ≤ b) (hb2 : b < 4294967296) (hc : 0 ≤ c) (hc2 : c < 4294967296) (hd : 0 ≤ d) (hd2 : d < 4294967296) (he : 0 ≤ e) (he2 : e < 4294967296) (ok : okI a b c d e) {k : Int} {tk : Tok} (hk : 0 ≤ k) (hk2 : k < 4294967296) : CtrN w 144 [.ref x, .int k tk] 1 16 [(x, instObj 154 dx), (dx, D)] (fun r new => ∃ fa u1 u2 n9, r = .ref fa ∧ new = [(fa, { cls := .type "tuple", data := .seq #[.int (2 + d + k / rowsI a e) u1, .int (k % rowsI a e * rowI e) u2] n9 })]) := by
  obtain ⟨k1, k2, k3, k4, k5, k6, k7, k8, k9, k10, k11, k12, t1, t2, t3, t4, t5, t6, t7, t8, t9, t10, t11, t12, n, rfl⟩ := hD
  exact fun rest => (c_row_of w a b c d e k1 k2 k3 k4 k5 k6 k7 k8 k9 k10 k11 k12 t1 t2 t3 t4 t5 t6 t7 t8 t9 t10 t11 t12 n x dx rest ha ha2 hb hb2 hc hc2 hd hd2 he he2 ok k tk hk hk2).mono fun r l hP => by
    obtain ⟨fa, u1, u2, n9, h1, h2, rfl⟩ := hP
    exact ⟨[_], ⟨fa, u1, u2, n9, h1, rfl⟩, (fun q hq => by rw [List.mem_singleton.mp hq]; exact h2), rfl⟩
theorem n_bit_of {w : World} {a b c d e : Int} {x dx : Addr} {D : Obj} (hD : IsSuper w.params a b c d e D) (ha : 0 ≤ a) (ha2 : a ≤ 2000) (hb : 0 ≤ b) (hb2 : b < 4294967296) (hc : 0 ≤ c) (hc2 : c < 4294967296) (hd : 0 ≤ d) (hd2 : d < 4294967296) (he : 0 ≤ e) (he2 : e < 4294967296) (ok : okI a b c d e) {k : Int} {tk : Tok} (hk : 0 ≤ k) (hk2 : k < 4294967296) : CtrN w 151 [.ref x, .int k tk] 1 16 [(x, instObj 154 dx), (dx, D)] (fun r new => ∃ fa u1 u2 u3 n9, r = .ref fa ∧ new = [(fa, { cls := .type "tuple", data := .seq #[.int (bitI a c d e + k / 8 / a) u1, .int (k / 8 % a) u2, .int (2 ^ (k % 8).toNat) u3] n9 })]) := by
  obtain ⟨k1, k2, k3, k4, k5, k6, k7, k8, k9, k10, k11, k12, t1, t2, t3, t4, t5, t6, t7, t8, t9, t10, t11, t12, n, rfl⟩ := hD
  exact fun rest => (c_bit_of w a b c d e k1 k2 k3 k4 k5 k6 k7 k8 k9 k10 k11 k12 t1 t2 t3 t4 t5 t6 t7 t8 t9 t10 t11 t12 n x dx rest ha ha2 hb hb2 hc hc2 hd hd2 he he2 ok k tk hk hk2).mono fun r l hP => by
    obtain ⟨fa, u1, u2, u3, n9, h1, h2, rfl⟩ := hP
    exact ⟨[_], ⟨fa, u1, u2, u3, n9, h1, rfl⟩, (fun q hq => by rw [List.mem_singleton.mp hq]; exact h2), rfl⟩
end
section
theorem off_NzW1 : True := by
  w_top off
  trivial
open PySem PySem.W PySem.Calls PyProof.Rows
section
variable {prog : Program} {w : World} {A : Around} {E : Value → Shared → Prop} {s : Shared} {h₀ : Heap} {L x dx : Addr} {m : Str → Option Value} {news : Led} {a b c d e : Int} {D : Obj}
theorem sm_most_blocks {pl : Sem Bool} {Q : Value × List Value → Shared → Prop} (F : Fr h₀ L s.heap m) (X₀ : (NzH.hd.heap_39 w.params).In h₀) (N : News h₀ L s.heap news) (h1 : (x, instObj 154 dx) ∈ news) (h2 : (dx, D) ∈ news) (hD : IsSuper w.params a b c d e D) (h : Q (.ref 116, [.ref x]) s) :
    wpAny (model prog w) A (getMethod (.ref x) (Str.ofString "most_blocks") pl) Q E s := by
  obtain ⟨k1, k2, k3, k4, k5, k6, k7, k8, k9, k10, k11, k12, t1, t2, t3, t4, t5, t6, t7, t8, t9, t10, t11, t12, n, rfl⟩ := hD
  exact method_inst F X₀ (InstAt.of_news N h1 h2) (by kernel_rfl) (by kernel_rfl) (by kernel_rfl) (by kernel_rfl) h
theorem sm_most_size {pl : Sem Bool} {Q : Value × List Value → Shared → Prop} (F : Fr h₀ L s.heap m) (X₀ : (NzH.hd.heap_39 w.params).In h₀) (N : News h₀ L s.heap news) (h1 : (x, instObj 154 dx) ∈ news) (h2 : (dx, D) ∈ news) (hD : IsSuper w.params a b c d e D) (h : Q (.ref 123, [.ref x]) s) :
    wpAny (model prog w) A (getMethod (.ref x) (Str.ofString "most_size") pl) Q E s := by
  obtain ⟨k1, k2, k3, k4, k5, k6, k7, k8, k9, k10, k11, k12, t1, t2, t3, t4, t5, t6, t7, t8, t9, t10, t11, t12, n, rfl⟩ := hD
  exact method_inst F X₀ (InstAt.of_news N h1 h2) (by kernel_rfl) (by kernel_rfl) (by kernel_rfl) (by kernel_rfl) h
theorem sm_words {pl : Sem Bool} {Q : Value × List Value → Shared → Prop} (F : Fr h₀ L s.heap m) (X₀ : (NzH.hd.heap_39 w.params).In h₀) (N : News h₀ L s.heap news) (h1 : (x, instObj 154 dx) ∈ news) (h2 : (dx, D) ∈ news) (hD : IsSuper w.params a b c d e D) (h : Q (.ref 130, [.ref x]) s) :
    wpAny (model prog w) A (getMethod (.ref x) (Str.ofString "words") pl) Q E s := by
  obtain ⟨k1, k2, k3, k4, k5, k6, k7, k8, k9, k10, k11, k12, t1, t2, t3, t4, t5, t6, t7, t8, t9, t10, t11, t12, n, rfl⟩ := hD
  exact method_inst F X₀ (InstAt.of_news N h1 h2) (by kernel_rfl) (by kernel_rfl) (by kernel_rfl) (by kernel_rfl) h
theorem sm_octets {pl : Sem Bool} {Q : Value × List Value → Shared → Prop} (F : Fr h₀ L s.heap m) (X₀ : (NzH.hd.heap_39 w.params).In h₀) (N : News h₀ L s.heap news) (h1 : (x, instObj 154 dx) ∈ news) (h2 : (dx, D) ∈ news) (hD : IsSuper w.params a b c d e D) (h : Q (.ref 137, [.ref x]) s) :
    wpAny (model prog w) A (getMethod (.ref x) (Str.ofString "octets") pl) Q E s := by
  obtain ⟨k1, k2, k3, k4, k5, k6, k7, k8, k9, k10, k11, k12, t1, t2, t3, t4, t5, t6, t7, t8, t9, t10, t11, t12, n, rfl⟩ := hD
  exact method_inst F X₀ (InstAt.of_news N h1 h2) (by kernel_rfl) (by kernel_rfl) (by kernel_rfl) (by kernel_rfl) h
theorem sm_row_of {pl : Sem Bool} {Q : Value × List Value → Shared → Prop} (F : Fr h₀ L s.heap m) (X₀ : (NzH.hd.heap_39 w.params).In h₀) (N : News h₀ L s.heap news) (h1 : (x, instObj 154 dx) ∈ news) (h2 : (dx, D) ∈ news) (hD : IsSuper w.params a b c d e D) (h : Q (.ref 144, [.ref x]) s) :
    wpAny (model prog w) A (getMethod (.ref x) (Str.ofString "row_of") pl) Q E s := by
  obtain ⟨k1, k2, k3, k4, k5, k6, k7, k8, k9, k10, k11, k12, t1, t2, t3, t4, t5, t6, t7, t8, t9, t10, t11, t12, n, rfl⟩ := hD
  exact method_inst F X₀ (InstAt.of_news N h1 h2) (by kernel_rfl) (by kernel_rfl) (by kernel_rfl) (by kernel_rfl) h
theorem sm_bit_of {pl : Sem Bool} {Q : Value × List Value → Shared → Prop} (F : Fr h₀ L s.heap m) (X₀ : (NzH.hd.heap_39 w.params).In h₀) (N : News h₀ L s.heap news) (h1 : (x, instObj 154 dx) ∈ news) (h2 : (dx, D) ∈ news) (hD : IsSuper w.params a b c d e D) (h : Q (.ref 151, [.ref x]) s) :
    wpAny (model prog w) A (getMethod (.ref x) (Str.ofString "bit_of") pl) Q E s := by
  obtain ⟨k1, k2, k3, k4, k5, k6, k7, k8, k9, k10, k11, k12, t1, t2, t3, t4, t5, t6, t7, t8, t9, t10, t11, t12, n, rfl⟩ := hD
  exact method_inst F X₀ (InstAt.of_news N h1 h2) (by kernel_rfl) (by kernel_rfl) (by kernel_rfl) (by kernel_rfl) h
theorem sa_data {expr : Bool} {Q : Value → Shared → Prop} (F : Fr h₀ L s.heap m) (X₀ : (NzH.hd.heap_39 w.params).In h₀) (N : News h₀ L s.heap news) (h1 : (x, instObj 154 dx) ∈ news) (h2 : (dx, D) ∈ news) (hD : IsSuper w.params a b c d e D) (h : ∀ t, Q (.int (datI a b c d e) t) { s with toks := s.toks + 1 }) :
    wpAny (model prog w) A (getAttr (.ref x) (Str.ofString "data_start") expr) Q E s := by
  obtain ⟨k1, k2, k3, k4, k5, k6, k7, k8, k9, k10, k11, k12, t1, t2, t3, t4, t5, t6, t7, t8, t9, t10, t11, t12, n, rfl⟩ := hD
  exact get_own (attr := none) (v := .int (datI a b c d e) t12) F X₀ (InstAt.of_news N h1 h2) (by kernel_rfl) (by kernel_rfl) (by kernel_rfl) (by kernel_rfl) (by kernel_rfl) rfl (h _)
theorem sa_block {expr : Bool} {Q : Value → Shared → Prop} (F : Fr h₀ L s.heap m) (X₀ : (NzH.hd.heap_39 w.params).In h₀) (N : News h₀ L s.heap news) (h1 : (x, instObj 154 dx) ∈ news) (h2 : (dx, D) ∈ news) (hD : IsSuper w.params a b c d e D) (h : ∀ t, Q (.int (a) t) { s with toks := s.toks + 1 }) :
    wpAny (model prog w) A (getAttr (.ref x) (Str.ofString "block") expr) Q E s := by
  obtain ⟨k1, k2, k3, k4, k5, k6, k7, k8, k9, k10, k11, k12, t1, t2, t3, t4, t5, t6, t7, t8, t9, t10, t11, t12, n, rfl⟩ := hD
  exact get_own (attr := none) (v := .int (a) t1) F X₀ (InstAt.of_news N h1 h2) (by kernel_rfl) (by kernel_rfl) (by kernel_rfl) (by kernel_rfl) (by kernel_rfl) rfl (h _)
end
end
section
theorem off_NzV0 : True := by
  w_top off
  trivial
open PySem PySem.W PySem.Calls PyProof.Rows PySem.Builtin
section
variable {prog : Program} {w : World} {A : Around} {E : Value → Shared → Prop} {s : Shared} {h₀ : Heap} {L : Addr} {m : Str → Option Value} {news led : Led}
theorem nz_enum {l : Addr} {vs : List Value} {ns : List Int} {n : Nat} {Q : Value → Shared → Prop} (hh : A.handled = none) (F : Fr h₀ L s.heap m) (N0 : News h₀ L s.heap led) (hl : (l, listOf vs.toArray n) ∈ led) (hi : IntsAre vs ns) (hs : ∀ p ∈ news, p ∈ led) (hoff : ∀ q ∈ news, q.1 ≠ l)
    (h : ∀ h' e, Fr h₀ L h' m → News h₀ L h' news → PairSrcL prog w A E h₀ L ItemKind.int ns (.ref e) { s with heap := h' } m news → Q (.ref e) { s with heap := h' }) :
    wpAny (model prog w) A (call (.type "enumerate") [.ref l]) Q E s := by
  have zl := N0 _ hl
  have hls : s.heap.IsList l vs.toArray := ⟨_, zl.1, rfl, n, rfl⟩
  have hlt : l < s.heap.objs.size := Heap.lt_size zl.1
  have hLs : L < s.heap.objs.size := F.ns.lt
  have N : News h₀ L s.heap news := fun p hp => N0 p (hs p hp)
  refine call_enumerate_list hls fun h' he hit hsz hk => ?_
  have N' : News h₀ L h' news := fun p hp => ⟨hk _ _ (N p hp).1, (N p hp).2⟩
  have old : ∀ x, s.heap.objs.size ≤ x → h₀.get? x = none := fun x hx => by
    cases q : h₀.get? x with
    | none => rfl
    | some o => exact absurd (Heap.lt_size (F.keep _ _ q)) (Nat.not_lt.mpr hx)
  refine h h' _ (F.keeps hk) N' fun env hL => ?_
  subst hL
  refine enumSrc (Draws.list (A := A.in1) hh s.heap.objs.size l (Nat.ne_of_lt hlt) vs.toArray) he ⟨hit, hls.at fun o e => hk l o e⟩ (Nat.succ_ne_self _) ?_ (by simp) ?_ (old _ (Nat.le_succ _)) (old _ (Nat.le_refl _)) ?_ (by simp [hi.areOf.length])
    (fun i x hx => hi.areOf.get i x (by simpa using hx)) (F.keeps hk) N'
  · intro hm
    rcases List.mem_cons.mp hm with e | hm
    · exact Nat.succ_ne_self _ e
    · exact absurd (List.mem_singleton.mp hm) (Nat.ne_of_gt (Nat.lt_succ_of_lt hlt))
  · intro hm
    rcases List.mem_cons.mp hm with e | hm
    · exact absurd e (Nat.ne_of_lt (Nat.lt_succ_of_lt hLs))
    · rcases List.mem_cons.mp hm with e | hm
      · exact absurd e (Nat.ne_of_lt hLs)
      · exact zl.2.1 (List.mem_singleton.mp hm).symm
  · intro x hx q hq e
    have hq1 : q.1 < s.heap.objs.size := Heap.lt_size (N q hq).1
    rcases List.mem_cons.mp hx with e1 | hx
    · exact absurd (e1.symm.trans e) (Nat.ne_of_gt (Nat.lt_succ_of_lt hq1))
    · rcases List.mem_cons.mp hx with e1 | hx
      · exact absurd (e1.symm.trans e) (Nat.ne_of_gt hq1)
      · exact hoff q hq (e.symm.trans (List.mem_singleton.mp hx))
end
/-- words laid one behind the other -/
def pws (ws : List Int) : Nat → List Int → List Int
  | 0, ks => ks
  | i + 1, ks => putWord (pws ws i ks) (4 * i) (ws.getD i 0)
theorem pws_length (ws ks : List Int) : ∀ i, (pws ws i ks).length = ks.length
  | 0 => rfl
  | i + 1 => by rw [pws, putWord_length, pws_length ws ks i]
/-- the words of a super block -/
abbrev wordsI (a b c d e : Int) : List Int := [270544960, b, b - datI a b c d e, c, d, 2, 2 + d, bitI a c d e, e]
theorem words_small {a b c d e : Int} (ok : okI a b c d e) (ha2 : a ≤ 2000) (hb2 : b < 4294967296) (hc2 : c < 4294967296) (hd2 : d < 4294967296) (he2 : e < 4294967296) : ∀ v ∈ wordsI a b c d e, 0 ≤ v ∧ v < 4294967296 := by
  obtain ⟨o1, o2, o3, o4, o5, o6, o7, o8⟩ := ok
  have rp : 0 < a / (12 + 4 * (e + 1)) := ediv_pos (by omega) o2
  have h1 : 0 ≤ (c + a / (12 + 4 * (e + 1)) - 1) / (a / (12 + 4 * (e + 1))) := Int.ediv_nonneg (by omega) (by omega)
  have h2 : 0 ≤ (b + 8 * a - 1) / (8 * a) := Int.ediv_nonneg (by omega) (by omega)
  dsimp only [datI] at o8
  intro v hv
  simp only [wordsI, List.mem_cons, List.not_mem_nil, or_false] at hv
  rcases hv with rfl | rfl | rfl | rfl | rfl | rfl | rfl | rfl | rfl <;> (try dsimp only [bitI, datI]) <;> omega
/-- what a turn of the words leaves -/
def OctStep (g : Heap) (L a9 : Addr) (xi xc : Str) (m : Str → Option Value) (lo : Led) (ws ks : List Int) (i : Nat) (s₁ : Shared) (f : Flow) (s₂ : Shared) : Prop :=
  f = .next ∧ ∃ h' tk m₂ b', s₂ = { s₁ with heap := h', toks := tk } ∧ Fr g L h' m₂ ∧ (∀ y, y ≠ xi → y ≠ xc → m₂ y = m y) ∧ News g L h' ((a9, baObj b') :: lo) ∧ KBw.bInts b' = pws ws (i + 1) ks
theorem oct_loop {prog : Program} {w : World} {A : Around} {E : Value → Shared → Prop} {s : Shared} {g : Heap} {L a9 : Addr} {b9 : Array UInt8} {rest : Led} {m : Str → Option Value} {ws ks : List Int} {xv : Value} {env : Env} {xi xc : Str} {body : List Stmt} {Q : Flow → Shared → Prop}
    (S : PairSrcL prog w A E g L ItemKind.int ws xv s m ((a9, baObj b9) :: rest)) (hb : KBw.bInts b9 = ks) (hL : env.locals = L) (hr : ∀ p ∈ rest, p.1 ≠ a9)
    (step : ∀ (i : Nat) v t tv b' h₁ tk₁ lo, ws[i]? = some v → KBw.bInts b' = pws ws i ks → (∀ p ∈ lo, p.1 ≠ a9) →
      Fr g L h₁ (fun y => if y = xc then some (.int v tv) else if y = xi then some (.int i t) else m y) → News g L h₁ ((a9, baObj b') :: lo) →
      wpAny (model prog w) A (execs body env) (OctStep g L a9 xi xc m lo ws ks i { s with heap := h₁, toks := tk₁ }) E { s with heap := h₁, toks := tk₁ })
    (done : ∀ h' tk b' v0 v1, Fr g L h' (fun y => if y = xc then v1 else if y = xi then v0 else m y) → News g L h' ((a9, baObj b') :: rest) → KBw.bInts b' = pws ws ws.length ks → Q .next { s with heap := h', toks := tk }) :
    wpAny (model prog w) A (pyIter xv) (fun it s₂ => PairAt3 prog w A g env xi xc body Q E it s₂) E s := by
  subst hL
  have norm : ∀ (m₁ : Str → Option Value) (v0 v1 : Option Value), (∀ y, y ≠ xi → y ≠ xc → m₁ y = m y) → (fun y => if y = xc then v1 else if y = xi then v0 else m₁ y) = fun y => if y = xc then v1 else if y = xi then v0 else m y := fun m₁ v0 v1 h => by
    funext y
    by_cases h1 : y = xc
    · simp only [if_pos h1]
    · by_cases h2 : y = xi
      · simp only [if_neg h1, if_pos h2]
      · simp only [if_neg h1, if_neg h2]; exact h y h2 h1
  refine S _ rfl xi xc body Q (fun i m₁ n₁ => (∀ y, y ≠ xi → y ≠ xc → m₁ y = m y) ∧ ∃ b', n₁ = (a9, baObj b') :: rest ∧ KBw.bInts b' = pws ws i ks) ⟨fun y _ _ => rfl, b9, rfl, hb⟩ ?_ ?_
  · rintro i v t _ m₁ n₁ s₁ own es hi ⟨tv, rfl⟩ ⟨hm, b', rfl, hb'⟩ hn hown F1 N1
    rw [norm m₁ _ _ hm] at F1
    obtain ⟨h₁, tk₁, rfl⟩ := es
    refine wpAny_mono (step i v t tv b' h₁ tk₁ (own ++ rest) hi hb' (fun p hp => (List.mem_append.mp hp).elim (fun q => hown p q (a9, baObj b9) (.head _)) (hr p)) F1 (fun p hp => N1 p ?_)) (fun f s₂ h => ?_) fun _ _ e => e
    · rcases List.mem_cons.mp hp with rfl | hp
      · exact List.mem_append.mpr (.inr (.head _))
      · exact List.mem_append.mpr ((List.mem_append.mp hp).elim .inl fun q => .inr (.tail _ q))
    · obtain ⟨rfl, h', tk, m₂, b'', rfl, F2, hm2, N2, hb2⟩ := h
      refine LoopStep3.of2 (LoopStep2.intro (news₂ := (a9, baObj b'') :: rest) F2 (fun p hp => N2 p ?_) rfl ⟨hm2, b'', rfl, hb2⟩)
      rcases List.mem_append.mp hp with hp | hp
      · exact .tail _ (List.mem_append.mpr (.inl hp))
      · rcases List.mem_cons.mp hp with rfl | hp
        · exact .head _
        · exact .tail _ (List.mem_append.mpr (.inr hp))
  · rintro h' tk m' n' F1 N1 hn ⟨hm, b', rfl, hb'⟩
    refine done h' tk b' (m' xi) (m' xc) ?_ N1 hb'
    have e : m' = fun y => if y = xc then m' xc else if y = xi then m' xi else m y := by
      funext y
      by_cases h1 : y = xc
      · rw [if_pos h1, h1]
      · by_cases h2 : y = xi
        · rw [if_neg h1, if_pos h2, h2]
        · rw [if_neg h1, if_neg h2]; exact hm y h2 h1
    exact e ▸ F1
end
section
local macro_rules | `(tactic| walk_at $s:str) => `(tactic| k_extra $(Lean.Syntax.mkStrLit ("52 " ++ s.getString)))
local macro_rules | `(tactic| walk_at "nz pad") => `(tactic| skip)
theorem off_NzW2 : True := by
  w_top off
  trivial
open PySem PySem.W PySem.Calls PyProof.Rows
theorem kw0_NzW2 : True := by
  k_with "52 nz pq" => k_extra "L0"
  k_with "52 nz pn" => k_extra "L1"
  k_with "52 nz pi" => k_extra "L2"
  k_with "52 nz pr" => k_extra "L3"
  k_with "52 nz oo" => k_extra "L4"
  k_with "52 nz zz" => k_extra "L5"
  k_with "52 nz om" => k_extra "L6"
  k_with "52 nz enter" => k_extra "L7"
  k_with "52 nz intro" => k_extra "L8"
  k_with "52 nz go" => k_extra "L9"
  k_with "52 nz end" => k_extra "L10"
  k_with "52 subscriptTail" => k_extra "L11"
  k_with "52 setItem ref int" => k_extra "L12"
  k_with "52 nz side" => k_extra "L13"
  k_with "52 nz pick" => k_extra "L14"
  k_with "52 nz sub" => k_extra "L15"
  k_with "52 nz news" => k_extra "L16"
  k_with "52 nz same" => k_extra "L17"
  k_with "52 nz out" => k_extra "L18"
  k_with "52 nz len" => k_extra "L19"
  k_with "52 getMethod str" => k_extra "L30"
  k_with "52 call builtin:str.encode" => k_extra "L31"
  k_with "52 call type:bytes" => k_extra "L32"
  k_with "52 call type:bytes" => k_extra "L33"
  k_with "52 call type:bytes" => k_extra "L34"
  k_with "52 call builtin:isinstance" => k_extra "L35"
  k_with "52 nz size" => k_extra "L36"
  k_with "52 nz enterC" => k_extra "L40"
  k_with "52 nz introC" => k_extra "L41"
  k_with "52 nz goC" => k_extra "L42"
  k_with "52 nz steps" => k_extra "L43"
  k_with "52 last wpC" => k_extra "L44"
  k_with "52 wpC" => k_extra "L45"
  k_with "52 wpC" => k_extra "L46"
  k_with "52 wpC" => k_extra "L47"
  k_with "52 wpC" => k_extra "L48"
  k_with "52 wpC" => k_extra "L49"
  k_with "52 wpC" => k_extra "L50"
  k_with "52 wpC" => k_extra "L51"
  k_with "52 wpC" => k_extra "L52"
  k_with "52 wpC" => k_extra "L53"
  k_with "52 wpC" => k_extra "L54"
  k_with "52 wpC" => k_extra "L55"
  k_with "52 wpC" => k_extra "L56"
  k_with "52 wpC" => k_extra "L57"
  k_with "52 wpC" => k_extra "L58"
  k_with "52 wpC" => k_extra "L59"
  k_with "52 wpC" => k_extra "L60"
  k_with "52 wpC" => k_extra "L61"
  k_with "52 getMethod ref" => k_extra "L62"
  k_with "52 getMethod str" => k_extra "L30"
  k_with "52 call builtin:str.encode" => k_extra "L31"
  k_with "52 call type:bytes" => k_extra "L32"
  k_with "52 call type:bytes" => k_extra "L33"
  k_with "52 call type:bytes" => k_extra "L34"
  k_with "52 call builtin:isinstance" => k_extra "L35"
  k_with "52 call builtin:len" => k_extra "L65"
  k_with "52 getMethod ref" => k_extra "L93"
  k_with "52 getMethod ref" => k_extra "L94"
  k_with "52 getMethod ref" => k_extra "L95"
  k_with "52 getMethod ref" => k_extra "L96"
  k_with "52 getMethod ref" => k_extra "L97"
  k_with "52 getMethod ref" => k_extra "L98"
  k_with "52 getAttr ref" => k_extra "L99"
  k_with "52 getAttr ref" => k_extra "L100"
  k_with "52 call ref" => k_extra "L101"
  k_with "52 call ref" => k_extra "L102"
  trivial
namespace OcH
def SS (w : World) (a : Int) (b : Int) (c : Int) (d : Int) (e : Int) (D : Obj) (x : Addr) (dx : Addr) (rest : Led) : Prop := IsSuper w.params a b c d e D → 0 ≤ a → a ≤ 2000 → 0 ≤ b → b < 4294967296 → 0 ≤ c → c < 4294967296 → 0 ≤ d → d < 4294967296 → 0 ≤ e → e < 4294967296 → okI a b c d e → CtrC w 137 [.ref x] 3 64 ((x, instObj 154 dx) :: (dx, D) :: rest) (fun r l => ∃ b9 t9, r = .bytes b9 t9 ∧ KBw.bInts b9 = pws (wordsI a b c d e) 9 (List.replicate a.toNat 0) ∧ l = ((x, instObj 154 dx) :: (dx, D) :: rest))
noncomputable def kk : World × Int × Int × Int × Int × Int × Obj × Addr × Addr × Led := Classical.epsilon fun y => ¬ SS y.1 y.2.1 y.2.2.1 y.2.2.2.1 y.2.2.2.2.1 y.2.2.2.2.2.1 y.2.2.2.2.2.2.1 y.2.2.2.2.2.2.2.1 y.2.2.2.2.2.2.2.2.1 y.2.2.2.2.2.2.2.2.2
@[irreducible] noncomputable def w : World := kk.1
@[irreducible] noncomputable def a : Int := kk.2.1
@[irreducible] noncomputable def b : Int := kk.2.2.1
@[irreducible] noncomputable def c : Int := kk.2.2.2.1
@[irreducible] noncomputable def d : Int := kk.2.2.2.2.1
@[irreducible] noncomputable def e : Int := kk.2.2.2.2.2.1
@[irreducible] noncomputable def D : Obj := kk.2.2.2.2.2.2.1
@[irreducible] noncomputable def x : Addr := kk.2.2.2.2.2.2.2.1
@[irreducible] noncomputable def dx : Addr := kk.2.2.2.2.2.2.2.2.1
@[irreducible] noncomputable def rest : Led := kk.2.2.2.2.2.2.2.2.2
noncomputable def yy : Fm := Classical.epsilon fun y => ¬ PremC w 137 [.ref x] 3 64 ((x, instObj 154 dx) :: (dx, D) :: rest) (fun r l => ∃ b9 t9, r = .bytes b9 t9 ∧ KBw.bInts b9 = pws (wordsI a b c d e) 9 (List.replicate a.toNat 0) ∧ l = ((x, instObj 154 dx) :: (dx, D) :: rest)) y
noncomputable abbrev gd : Option (List Code) := yy.gd
end OcH
open OcH in
theorem OcH.main (hD : IsSuper w.params a b c d e D) (ha : 0 ≤ a) (ha2 : a ≤ 2000) (hb : 0 ≤ b) (hb2 : b < 4294967296) (hc : 0 ≤ c) (hc2 : c < 4294967296) (hd : 0 ≤ d) (hd2 : d < 4294967296) (he : 0 ≤ e) (he2 : e < 4294967296) (ok : okI a b c d e) : PremC w 137 [.ref x] 3 64 ((x, instObj 154 dx) :: (dx, D) :: rest) (fun r l => ∃ b9 t9, r = .bytes b9 t9 ∧ KBw.bInts b9 = pws (wordsI a b c d e) 9 (List.replicate a.toNat 0) ∧ l = ((x, instObj 154 dx) :: (dx, D) :: rest)) yy := by
  k_dflt (refine' premC_of ?k6 ?hb ?_; (case k6 => (with_unfolding_all rfl)); (case hb => (with_unfolding_all rfl)); k_whole)
  k_fill
  intro B F X N T hd hu
  (try dsimp only)
  have ok2 := ok.2.2.1
  have ok3 := ok.2.2.2.2.2.2.2
  have hsm := words_small ok ha2 hb2 hc2 hd2 he2
  k_steps
  (rename KBw.bInts _ = List.replicate _ 0 => hb0)
  (rename (_ < _ ∧ _ < _ ∧ _ < _ ∧ AllLt _ _) => l8)
  (rename (_ < _ ∧ _ < _ ∧ AllLt _ _) => l7)
  k_here
  k_dflt (refine' nz_enum (ns := wordsI a b c d e) rfl ?F ?N (.head _) ?hi (sub_tail sub_rfl) ?hoff ?_; (case F => k_asm); (case N => k_asm); (case hi => exact .cons _ _ (.cons _ _ (.cons _ _ (.cons _ _ (.cons _ _ (.cons _ _ (.cons _ _ (.cons _ _ (.cons _ _ .nil))))))))); (case hoff => exact allLt_ne l8))
  intro h5 e5 F5 N5 S5
  k_fold
  k_steps
  k_dflt (refine' oct_loop S5 hb0 rfl (allLt_ne l7) ?step ?done)
  case step =>
    intro i v t tv b1 h1 tk1 lo hi hb1 ho1 F1 N1
    have hi9 : i < 9 := (List.getElem?_eq_some_iff.mp hi).1
    have hv := hsm v (List.mem_of_getElem? hi)
    have gd : (wordsI a b c d e).getD i 0 = v := by rw [List.getD_eq_getElem?_getD, hi]; rfl
    have hl := pws_length (wordsI a b c d e) (List.replicate a.toNat 0) i
    rw [List.length_replicate] at hl
    k_steps
    (rename KBw.bInts _ = putWord _ _ _ => hp2)
    refine ⟨rfl, _, _, _, _, rfl, by k_asm, fun y y1 y2 => ?_, by k_asm, hp2.trans ?_⟩
    · simp only [if_neg y1, if_neg y2]
    · rw [show (4 * (i : Int)).toNat = 4 * i by omega, pws, gd]
  case done =>
    intro h' tk b1 v0 v1 F1 N1 hb1
    have hl := pws_length (wordsI a b c d e) (List.replicate a.toNat 0) 9
    rw [List.length_replicate] at hl
    have hb1 : KBw.bInts b1 = pws (wordsI a b c d e) 9 (List.replicate a.toNat 0) := hb1
    k_steps
    walk_at "nz out"
    case P => exact ⟨_, _, rfl, hb1, rfl⟩
    case N => walk_at "nz news"
open OcH in
theorem OcH.fin (hD : IsSuper w.params a b c d e D) (ha : 0 ≤ a) (ha2 : a ≤ 2000) (hb : 0 ≤ b) (hb2 : b < 4294967296) (hc : 0 ≤ c) (hc2 : c < 4294967296) (hd : 0 ≤ d) (hd2 : d < 4294967296) (he : 0 ≤ e) (he2 : e < 4294967296) (ok : okI a b c d e) : CtrC w 137 [.ref x] 3 64 ((x, instObj 154 dx) :: (dx, D) :: rest) (fun r l => ∃ b9 t9, r = .bytes b9 t9 ∧ KBw.bInts b9 = pws (wordsI a b c d e) 9 (List.replicate a.toNat 0) ∧ l = ((x, instObj 154 dx) :: (dx, D) :: rest)) := by
  have h : ∀ y, PremC w 137 [.ref x] 3 64 ((x, instObj 154 dx) :: (dx, D) :: rest) (fun r l => ∃ b9 t9, r = .bytes b9 t9 ∧ KBw.bInts b9 = pws (wordsI a b c d e) 9 (List.replicate a.toNat 0) ∧ l = ((x, instObj 154 dx) :: (dx, D) :: rest)) y := henk (OcH.main hD ha ha2 hb hb2 hc hc2 hd hd2 he he2 ok)
  k_dflt (refine' ctrC_def (binds := [(Str.ofString "self", .ref x)]) ?k6 ?k7 ?k9 ?kB ?c2 ?c3 ?c4 ?c5 ?_; (case k6 => (with_unfolding_all rfl)); (case k7 => (with_unfolding_all rfl)); (case k9 => exact rfl); (case kB => exact locs rfl); (case c2 => exact rfl); (case c3 => exact rfl); (case c4 => exact rfl); (case c5 => decide); k_whole)
  intro mean mg mb dp un gd env outer base g L s B F X N T hd hu
  (with_unfolding_all refine' h ⟨mean, mg, mb, dp, un, gd, env, outer, base, g, L, s⟩ _ _ _ _ _ _ _ _ _ _ _ _ _ _ _ ?k6 ?zB ?zF ?zX ?zN ?zT ?zhd ?zhu)
  (case k6 => with_unfolding_all rfl)
  (case zB => with_unfolding_all exact B)
  (case zF => with_unfolding_all exact F)
  (case zX => with_unfolding_all exact X)
  (case zN => with_unfolding_all exact N)
  (case zT => with_unfolding_all exact T)
  (case zhd => with_unfolding_all exact hd)
  (case zhu => with_unfolding_all exact hu)
theorem c_octets (w : World) (a : Int) (b : Int) (c : Int) (d : Int) (e : Int) (D : Obj) (x : Addr) (dx : Addr) (rest : Led) (hD : IsSuper w.params a b c d e D) (ha : 0 ≤ a) (ha2 : a ≤ 2000) (hb : 0 ≤ b) (hb2 : b < 4294967296) (hc : 0 ≤ c) (hc2 : c < 4294967296) (hd : 0 ≤ d) (hd2 : d < 4294967296) (he : 0 ≤ e) (he2 : e < 4294967296) (ok : okI a b c d e) : CtrC w 137 [.ref x] 3 64 ((x, instObj 154 dx) :: (dx, D) :: rest) (fun r l => ∃ b9 t9, r = .bytes b9 t9 ∧ KBw.bInts b9 = pws (wordsI a b c d e) 9 (List.replicate a.toNat 0) ∧ l = ((x, instObj 154 dx) :: (dx, D) :: rest)) := by
  refine henk (P := fun y => OcH.SS y.1 y.2.1 y.2.2.1 y.2.2.2.1 y.2.2.2.2.1 y.2.2.2.2.2.1 y.2.2.2.2.2.2.1 y.2.2.2.2.2.2.2.1 y.2.2.2.2.2.2.2.2.1 y.2.2.2.2.2.2.2.2.2) ?_ (w, a, b, c, d, e, D, x, dx, rest) hD ha ha2 hb hb2 hc hc2 hd hd2 he he2 ok
  intro hD ha ha2 hb hb2 hc hc2 hd hd2 he he2 ok
  with_unfolding_all exact OcH.fin hD ha ha2 hb hb2 hc hc2 hd hd2 he he2 ok
end
section
local macro_rules | `(tactic| walk_at $s:str) => `(tactic| k_extra $(Lean.Syntax.mkStrLit ("53 " ++ s.getString)))
local macro_rules | `(tactic| walk_at "nz pad") => `(tactic| skip)
local macro_rules | `(tactic| walk_at "nz pad") => `(tactic| skip)
theorem off_NzA1 : True := by
  w_top off
  trivial
open PySem PySem.W PySem.Calls PyProof.Rows
/-- what a plan gives -/
theorem kw0_NzA1 : True := by
  k_with "53 nz pq" => k_extra "L0"
  k_with "53 nz pn" => k_extra "L1"
  k_with "53 nz pi" => k_extra "L2"
  k_with "53 nz pr" => k_extra "L3"
  k_with "53 nz oo" => k_extra "L4"
  k_with "53 nz zz" => k_extra "L5"
  k_with "53 nz om" => k_extra "L6"
  k_with "53 nz enter" => k_extra "L7"
  k_with "53 nz intro" => k_extra "L8"
  k_with "53 nz go" => k_extra "L9"
  k_with "53 nz end" => k_extra "L10"
  k_with "53 subscriptTail" => k_extra "L11"
  k_with "53 setItem ref int" => k_extra "L12"
  k_with "53 nz side" => k_extra "L13"
  k_with "53 nz pick" => k_extra "L14"
  k_with "53 nz sub" => k_extra "L15"
  k_with "53 nz news" => k_extra "L16"
  k_with "53 nz same" => k_extra "L17"
  k_with "53 nz out" => k_extra "L18"
  k_with "53 nz len" => k_extra "L19"
  k_with "53 getMethod str" => k_extra "L30"
  k_with "53 call builtin:str.encode" => k_extra "L31"
  k_with "53 call type:bytes" => k_extra "L32"
  k_with "53 call type:bytes" => k_extra "L33"
  k_with "53 call type:bytes" => k_extra "L34"
  k_with "53 call builtin:isinstance" => k_extra "L35"
  k_with "53 nz size" => k_extra "L36"
  k_with "53 nz den" => k_extra "L103"
  k_with "53 exec Raise some none" => k_extra "L76"
  k_with "53 call ref" => k_extra "L77"
  k_with "53 nz raise" => k_extra "L78"
  k_with "53 nz exc" => k_extra "L79"
  k_with "53 nz exc" => k_extra "L80"
  k_with "53 nz outX" => k_extra "L81"
  k_with "53 nz steps" => k_extra "L82"
  k_with "53 nz den" => k_extra "L83"
  k_with "53 nz den" => k_extra "L103"
  k_with "53 binaryOp FloorDiv int int" => k_extra "L24"
  k_with "53 binaryOp Mod int int" => k_extra "L25"
  k_with "53 binaryOp FloorDiv int int" => k_extra "L104"
  k_with "53 isTrue BoolOp" => k_extra "L105"
  trivial
def PlanR (a b c d e : Int) (rest : Led) (r : Value) (l : Led) : Prop := (¬ okI a b c d e ∧ r = .none ∧ l = rest) ∨ (okI a b c d e ∧ ∃ la fa u1 u2 u3 u4 u5 u6 u7 u8 u9 u10 u11 n9 n8, r = .ref fa ∧ (∀ p ∈ rest, p.1 < la) ∧ @LT.lt Nat instLTNat la fa ∧ l = (fa, { cls := .type "tuple", data := .seq #[.ref la, .int (rowsI a e) u10, .int (datI a b c d e) u11] n8 }) :: (la, duL a b c d e u1 u2 u3 u4 u5 u6 u7 u8 u9 n9) :: rest)
namespace PlaH
def SS (w : World) (a : Int) (b : Int) (c : Int) (d : Int) (e : Int) (ta : Tok) (tb : Tok) (tc : Tok) (td : Tok) (te : Tok) (rest : Led) : Prop := 0 ≤ a → a ≤ 2000 → 0 ≤ b → b < 4294967296 → 0 ≤ c → c < 4294967296 → 0 ≤ d → d < 4294967296 → 0 ≤ e → e < 4294967296 → Ctr w 245 [.int a ta, .int b tb, .int c tc, .int d td, .int e te] 1 16 rest (fun r l => PlanR a b c d e rest r l) NoE
noncomputable def kk : World × Int × Int × Int × Int × Int × Tok × Tok × Tok × Tok × Tok × Led := Classical.epsilon fun y => ¬ SS y.1 y.2.1 y.2.2.1 y.2.2.2.1 y.2.2.2.2.1 y.2.2.2.2.2.1 y.2.2.2.2.2.2.1 y.2.2.2.2.2.2.2.1 y.2.2.2.2.2.2.2.2.1 y.2.2.2.2.2.2.2.2.2.1 y.2.2.2.2.2.2.2.2.2.2.1 y.2.2.2.2.2.2.2.2.2.2.2
@[irreducible] noncomputable def w : World := kk.1
@[irreducible] noncomputable def a : Int := kk.2.1
@[irreducible] noncomputable def b : Int := kk.2.2.1
@[irreducible] noncomputable def c : Int := kk.2.2.2.1
@[irreducible] noncomputable def d : Int := kk.2.2.2.2.1
@[irreducible] noncomputable def e : Int := kk.2.2.2.2.2.1
@[irreducible] noncomputable def ta : Tok := kk.2.2.2.2.2.2.1
@[irreducible] noncomputable def tb : Tok := kk.2.2.2.2.2.2.2.1
@[irreducible] noncomputable def tc : Tok := kk.2.2.2.2.2.2.2.2.1
@[irreducible] noncomputable def td : Tok := kk.2.2.2.2.2.2.2.2.2.1
@[irreducible] noncomputable def te : Tok := kk.2.2.2.2.2.2.2.2.2.2.1
@[irreducible] noncomputable def rest : Led := kk.2.2.2.2.2.2.2.2.2.2.2
noncomputable def yy : Fm := Classical.epsilon fun y => ¬ PremA w 245 [.int a ta, .int b tb, .int c tc, .int d td, .int e te] 1 16 rest (fun r l => PlanR a b c d e rest r l) y
end PlaH
open PlaH in
theorem PlaH.main (ha : 0 ≤ a) (ha2 : a ≤ 2000) (hb : 0 ≤ b) (hb2 : b < 4294967296) (hc : 0 ≤ c) (hc2 : c < 4294967296) (hd : 0 ≤ d) (hd2 : d < 4294967296) (he : 0 ≤ e) (he2 : e < 4294967296) : PremA w 245 [.int a ta, .int b tb, .int c tc, .int d td, .int e te] 1 16 rest (fun r l => PlanR a b c d e rest r l) yy := by
  k_dflt (refine' premA_of ?k6 ?hb ?_; (case k6 => (with_unfolding_all rfl)); (case hb => (with_unfolding_all rfl)); k_whole)
  k_fill
  intro B F X N T hd hu
  (try dsimp only)
  k_fold
  have e1 : 16 + 4 * e = 12 + 4 * (e + 1) := by omega
  k_steps
  all_goals (first | (walk_at "nz out"; (case P => exact .inl ⟨fun ok => by (obtain ⟨o1, o2, o3, o4, o5, o6, o7, o8⟩ := ok; first | omega | (dsimp only [datI, bitI, rowsI, rowI] at o8; (rename b ≤ _ => hx); rw [e1] at hx; omega)), rfl, rfl⟩); (case N => walk_at "nz news")) | skip)
  (with_reducible rename Flow → Shared → Prop => q9)
  show q9 _ _
  k_unfold
  (with_reducible rename News _ _ _ _ => N8)
  rw [e1] at N8
  (rename ¬ b ≤ _ => hx)
  rw [e1] at hx
  (rename (_ < _ ∧ AllLt _ _) => l8)
  (rename (∀ p ∈ rest, p.1 < _) => l7)
  walk_at "nz out"
  case N => k_asm
  case P => exact .inr ⟨⟨by omega, by omega, by omega, by omega, by omega, by omega, by omega, by (dsimp only [datI]; omega)⟩, _, _, _, _, _, _, _, _, _, _, _, _, _, _, _, rfl, l7, l8.1, rfl⟩
open PlaH in
theorem PlaH.fin (ha : 0 ≤ a) (ha2 : a ≤ 2000) (hb : 0 ≤ b) (hb2 : b < 4294967296) (hc : 0 ≤ c) (hc2 : c < 4294967296) (hd : 0 ≤ d) (hd2 : d < 4294967296) (he : 0 ≤ e) (he2 : e < 4294967296) : Ctr w 245 [.int a ta, .int b tb, .int c tc, .int d td, .int e te] 1 16 rest (fun r l => PlanR a b c d e rest r l) NoE := by
  have h : ∀ y, PremA w 245 [.int a ta, .int b tb, .int c tc, .int d td, .int e te] 1 16 rest (fun r l => PlanR a b c d e rest r l) y := henk (PlaH.main ha ha2 hb hb2 hc hc2 hd hd2 he he2)
  k_dflt (refine' ctr_def (binds := [(Str.ofString "block", .int a ta), (Str.ofString "blocks", .int b tb), (Str.ofString "inodes", .int c tc), (Str.ofString "log", .int d td), (Str.ofString "direct", .int e te)]) ?k6 ?k7 ?k9 ?kB ?c2 ?c3 ?c4 ?c5 ?_; (case k6 => (with_unfolding_all rfl)); (case k7 => (with_unfolding_all rfl)); (case k9 => exact rfl); (case kB => exact locs rfl); (case c2 => exact rfl); (case c3 => exact rfl); (case c4 => exact rfl); (case c5 => decide); k_whole)
  intro mean mg mb dp un gd env outer base g L s B F X N T hd hu
  (with_unfolding_all refine' h ⟨mean, mg, mb, dp, un, gd, env, outer, base, g, L, s⟩ _ _ _ _ _ _ _ _ _ _ _ _ _ _ _ ?k6 ?zB ?zF ?zX ?zN ?zT ?zhd ?zhu)
  (case k6 => with_unfolding_all rfl)
  (case zB => with_unfolding_all exact B)
  (case zF => with_unfolding_all exact F)
  (case zX => with_unfolding_all exact X)
  (case zN => with_unfolding_all exact N)
  (case zT => with_unfolding_all exact T)
  (case zhd => with_unfolding_all exact hd)
  (case zhu => with_unfolding_all exact hu)
theorem c_plan (w : World) (a : Int) (b : Int) (c : Int) (d : Int) (e : Int) (ta : Tok) (tb : Tok) (tc : Tok) (td : Tok) (te : Tok) (ha : 0 ≤ a) (ha2 : a ≤ 2000) (hb : 0 ≤ b) (hb2 : b < 4294967296) (hc : 0 ≤ c) (hc2 : c < 4294967296) (hd : 0 ≤ d) (hd2 : d < 4294967296) (he : 0 ≤ e) (he2 : e < 4294967296) (rest : Led) : Ctr w 245 [.int a ta, .int b tb, .int c tc, .int d td, .int e te] 1 16 rest (fun r l => PlanR a b c d e rest r l) NoE := by
  refine henk (P := fun y => PlaH.SS y.1 y.2.1 y.2.2.1 y.2.2.2.1 y.2.2.2.2.1 y.2.2.2.2.2.1 y.2.2.2.2.2.2.1 y.2.2.2.2.2.2.2.1 y.2.2.2.2.2.2.2.2.1 y.2.2.2.2.2.2.2.2.2.1 y.2.2.2.2.2.2.2.2.2.2.1 y.2.2.2.2.2.2.2.2.2.2.2) ?_ (w, a, b, c, d, e, ta, tb, tc, td, te, rest) ha ha2 hb hb2 hc hc2 hd hd2 he he2
  intro ha ha2 hb hb2 hc hc2 hd hd2 he he2
  with_unfolding_all exact PlaH.fin ha ha2 hb hb2 hc hc2 hd hd2 he he2
end
section
theorem off_NzA0 : True := by
  w_top off
  trivial
open PySem PySem.W PySem.Calls PyProof.Rows PySem.Builtin
section
variable {w : World} {A : Around} {base g g₁ : Heap} {env : Env} {outer : List Env} {L a e1 e2 C C1 T1 : Addr} {m' : Str → Option Value} {name : Str} {scope : Scope} {cd t : Value} {cl : List (Str × Addr)} {mean : ExcName → Option Value} {mg mb : Str → Option Value} {keep led : Led} {s s' : Shared} {oe1 oe2 : Obj} {Exc : Addr → Value → Prop}
/-- raised in the suite of an except clause -/
theorem raises_handled (Tn : Turned w A base (env :: outer) mean mg mb g g₁) (XB : (NzH.hd.heap_39 w.params).In base) (TB : TopN mean mg mb base) (F : Fr g₁ L s'.heap m') (N : News g₁ L s'.heap ((e2, oe2) :: led)) (m1 : (e1, oe1) ∈ led) (hF1 : FlyO C1 T1 .none oe1) (hs : ∀ p ∈ keep, p ∈ led) (l : ∀ p ∈ led, p.1 < e2)
    (hc : oe2.cls = .ref C) (hdt : oe2.data = .fields #[t, .none, .none, .none, .bool false, .none]) (hC : C = 45 ∨ C = 57) (hX : Exc C (.ref e1)) (S1 : s'.gens = s.gens) (S2 : s'.drawn = s.drawn) (S3 : s'.os = s.os) (hk : scope.kind = .function) :
    RaisesV w (some (.ref e1)) (notedBy (model PySem.Challenge.rw_nz0212_01.row.prog w) ((A.deeper (envX name scope L a cd cl)).mark (some (.ref e1))) (envX name scope L a cd cl) (cameBackBy (model PySem.Challenge.rw_nz0212_01.row.prog w) (A.deeper (envX name scope L a cd cl)) (envX name scope L a cd cl)
      (RaiX (model PySem.Challenge.rw_nz0212_01.row.prog w) (A.deeper (envX name scope L a cd cl)) (envX name scope L a cd cl) g (env :: outer) keep Exc s))) (.ref e2) s' := by
  have he := (N _ (.head _)).1
  have ne1 : e1 ≠ e2 := Nat.ne_of_lt (l _ m1)
  refine ⟨e2, oe2, C, t, .none, .bool false, .none, rfl, Tn.inn.keeps F.keep, hC, he, hc, hdt, e1, oe1, C1, T1, rfl, ne1, (N _ (.tail _ m1)).1, hF1, ?_⟩
  -- the context is laid
  have hd2 := Obj.data_mapFields hdt (·.setIfInBounds 2 (.ref e1))
  have he₀ := Heap.get?_update_self (Obj.mapFields (·.setIfInBounds 2 (.ref e1))) he (Obj.isFreed_of_fields hd2)
  obtain ⟨F₀, N₀⟩ := news_but1 (pre := []) (post := led) F N (fun p hp => nomatch hp) (fun p hp => Nat.ne_of_lt (l p hp)) (fun b o hb ho => (Heap.get?_update_other _ _ (Ne.symm hb)).trans ho) he₀
  generalize s'.heap.update e2 (Obj.mapFields (·.setIfInBounds 2 (.ref e1))) = h₀ at he₀ F₀ N₀ ⊢
  replace N₀ : News g₁ L h₀ ((e2, oe2.mapFields (·.setIfInBounds 2 (.ref e1))) :: led) := N₀
  have hR : RawO C (.ref e1) (oe2.mapFields (·.setIfInBounds 2 (.ref e1))) := ⟨(Obj.cls_mapFields _ _).trans hc, t, .none, .bool false, .none, hd2⟩
  have B' := pushX (env := envX name scope L a cd cl) Tn.below F₀ rfl hk
  obtain ⟨FG, _, _, _⟩ := groundX (R := fun _ _ => True) (env := envX name scope L a cd cl) (s := { s' with heap := h₀ }) (A := A.deeper (envX name scope L a cd cl)) Tn.below F₀ N₀ B'.stack rfl hk
  unfold notedBy
  refine note_first (s := { s' with heap := h₀ }) B'.stack B'.frames rfl he₀ hR fun h₁ T oT oe' sp he₁ hF hz hT hTr => ?_
  have eT : e2 ≠ T := fun q => by have := Heap.lt_size he₀; rw [q] at this; exact absurd this (Nat.not_lt.mpr hz)
  unfold cameBackBy
  obtain ⟨hc', a0, c3, c4, c5, hd'⟩ := hF
  refine wpAny_bind (wpAny_field he₁ hd' (x := .ref T) rfl ?_)
  dsimp only
  rw [if_neg (by simp)]
  have hF : FlyO C T (.ref e1) oe' := ⟨hc', a0, c3, c4, c5, hd'⟩
  refine set_flight (s := { s' with heap := h₁ }) (x := some L) he₁ hF hT hTr fun oT₂ hT₂ hTr₂ => ?_
  have ltT : ∀ {b o}, h₀.get? b = some o → b ≠ T := fun q z => by have := Heap.lt_size q; rw [z] at this; exact absurd this (Nat.not_lt.mpr hz)
  have other : ∀ b, b ≠ T → (h₁.update T (Obj.mapFields (·.setIfInBounds 3 ((some L : Option Addr).elim Value.none fun f => rawInt f)))).get? b = h₁.get? b := fun b hb => Heap.get?_update_other _ _ (Ne.symm hb)
  generalize h₁.update T (Obj.mapFields (·.setIfInBounds 3 ((some L : Option Addr).elim Value.none fun f => rawInt f))) = h₂ at other hT₂ ⊢
  have spun : ∀ b o, b ≠ e2 → h₀.get? b = some o → (b ∉ fsOf (envX name scope L a cd cl :: env :: outer) → h₂.get? b = some o) ∧ ∃ sl, h₂.get? b = some { o with slots := sl } := fun b o hb q => by
    obtain ⟨x1, sl, x2⟩ := sp b o hb q
    exact ⟨fun hn => (other b (ltT q)).trans (x1 hn), sl, (other b (ltT q)).trans x2⟩
  have hid : ∀ {b o}, (hideAll h₀ (((e2, oe2.mapFields (·.setIfInBounds 2 (.ref e1))) :: led).map (·.1))).get? b = some o → b ≠ e2 := fun {b o} q z => by rw [z, hideAll_none _ (by simp)] at q; cases q
  obtain ⟨g₂, Tn₂, F₂, N₂⟩ := view_back (h' := h₂) (news' := (e2, oe') :: (T, oT₂) :: led) (env := envX name scope L a cd cl) Tn.below XB TB Tn.dicts FG rfl
    (fun b o q => spun b o (hid q) (of_hideAll _ q)) (fun p hp => by
      rcases List.mem_cons.mp hp with rfl | hp
      · exact ⟨(other e2 eT).trans he₁, hideAll_none _ (by simp)⟩
      · rcases List.mem_cons.mp hp with rfl | hp
        · refine ⟨hT₂, ?_⟩
          cases q : (hideAll h₀ (((e2, oe2.mapFields (·.setIfInBounds 2 (.ref e1))) :: led).map (·.1))).get? T with
          | none => rfl
          | some o => exact absurd rfl (ltT (of_hideAll _ q))
        · have z := N₀ p (.tail _ hp)
          refine ⟨(spun p.1 p.2 (Nat.ne_of_lt (l p hp)) z.1).1 fun hm => ?_, hideAll_none _ (by simp; exact .inr ⟨p.2, hp⟩)⟩
          rcases List.mem_filterMap.mp hm with ⟨ev, hev, hef⟩
          rcases List.mem_cons.mp hev with rfl | hev
          · exact z.2.1 (Option.some.inj hef).symm
          · obtain ⟨o', ho', _⟩ := (Tn.below.frames.mem (List.mem_filterMap.mpr ⟨ev, hev, hef⟩)).2
            rw [z.2.2] at ho'; cases ho')
  exact rai_noted (s' := { s' with heap := h₂ }) (Tn.trans Tn₂) F₂ N₂ hs (fun p hp => ⟨Nat.ne_of_lt (l p (hs p hp)), ltT (N₀ p (.tail _ (hs p hp))).1⟩) hF hTr₂ eT hX S1 S2 S3 rfl
end
end
section
local macro_rules | `(tactic| walk_at $s:str) => `(tactic| k_extra $(Lean.Syntax.mkStrLit ("55 " ++ s.getString)))
theorem off_NzA2 : True := by
  w_top off
  trivial
open PySem PySem.W PySem.Calls PyProof.Rows
theorem kw0_NzA2 : True := by
  k_with "55 nz pq" => k_extra "L0"
  k_with "55 nz pn" => k_extra "L1"
  k_with "55 nz pi" => k_extra "L2"
  k_with "55 nz pr" => k_extra "L3"
  k_with "55 nz oo" => k_extra "L4"
  k_with "55 nz zz" => k_extra "L5"
  k_with "55 nz om" => k_extra "L6"
  k_with "55 nz enter" => k_extra "L7"
  k_with "55 nz intro" => k_extra "L8"
  k_with "55 nz go" => k_extra "L9"
  k_with "55 nz end" => k_extra "L10"
  k_with "55 subscriptTail" => k_extra "L11"
  k_with "55 setItem ref int" => k_extra "L12"
  k_with "55 nz side" => k_extra "L13"
  k_with "55 nz pick" => k_extra "L14"
  k_with "55 nz sub" => k_extra "L15"
  k_with "55 nz news" => k_extra "L16"
  k_with "55 nz same" => k_extra "L17"
  k_with "55 nz out" => k_extra "L18"
  k_with "55 nz len" => k_extra "L19"
  k_with "55 getMethod str" => k_extra "L30"
  k_with "55 call builtin:str.encode" => k_extra "L31"
  k_with "55 call type:bytes" => k_extra "L32"
  k_with "55 call type:bytes" => k_extra "L33"
  k_with "55 call type:bytes" => k_extra "L34"
  k_with "55 call builtin:isinstance" => k_extra "L35"
  k_with "55 nz size" => k_extra "L36"
  trivial
theorem room1 {dp d k : Nat} (h : dp + d < recursionLimit) (hk : k + 1 ≤ d) : (dp + 1) + k < recursionLimit := by omega
/-- the words that stand in a super block -/
abbrev wordsAt (ks : List Int) : List Int := [wordI ks 0, wordI ks 4, wordI ks 8, wordI ks 12, wordI ks 16, wordI ks 20, wordI ks 24, wordI ks 28, wordI ks 32]
/-- a super block that read_super takes -/
theorem kw1_NzA2 : True := by
  k_with "55 exec Try" => k_extra "L106"
  trivial
def superOk (ks : List Int) : Prop := 36 ≤ ks.length ∧ wordI ks 0 = 270544960 ∧ okI ks.length (wordI ks 4) (wordI ks 12) (wordI ks 16) (wordI ks 32) ∧ wordsI ks.length (wordI ks 4) (wordI ks 12) (wordI ks 16) (wordI ks 32) = wordsAt ks
theorem half_bound {b : Array UInt8} {ks : List Int} (hb : KBw.bInts b = ks) (i : Nat) : 0 ≤ halfI ks i ∧ halfI ks i < 65536 := by
  have h : ∀ j, 0 ≤ ks.getD j 0 ∧ ks.getD j 0 < 256 := fun j => by
    rw [List.getD_eq_getElem?_getD]
    cases q : ks[j]? with
    | none => exact ⟨by decide, by decide⟩
    | some k => exact KBw.ints_in (hb.symm ▸ List.mem_of_getElem? q)
  have h1 := h i
  have h2 := h (i + 1)
  unfold halfI
  omega
theorem word_bound {b : Array UInt8} {ks : List Int} (hb : KBw.bInts b = ks) (i : Nat) : 0 ≤ wordI ks i ∧ wordI ks i < 4294967296 := by
  have h1 := half_bound hb i
  have h2 := half_bound hb (i + 2)
  unfold wordI
  omega
theorem rk_list {ks : List Int} (wb : ∀ i, 0 ≤ wordI ks i ∧ wordI ks i < 4294967296) : (List.map (fun k' => if 0 ≤ wordI ks (4 * k').toNat ∧ wordI ks (4 * k').toNat < 4294967296 then wordI ks (4 * k').toNat else k') (rangeKs 0 (9 - 0 : Int).toNat)) = wordsAt ks := by
  simp only [if_pos (wb _)]
  rfl
section
variable {w : World} {A₀ : Around} {base g : Heap} {outer : List Env} {L a e C T : Addr} {m : Str → Option Value} {name : Str} {scope : Scope} {cd : Value} {mean : ExcName → Option Value} {mg mb : Str → Option Value} {news : Led} {s : Shared} {oe oT : Obj} {c2 : Value} {x : Str} {np pos : Pos} {b₀ : Stmt} {suite : List Stmt} {rest : List ExceptHandler} {Q : Flow → Shared → Prop} {E : Value → Shared → Prop}
/-- the same in a def with cells -/
theorem caughtC (B : Below A₀ base outer g) (XB : (NzH.hd.heap_39 w.params).In base) (TB : TopN mean mg mb base) (D : KtsDicts (fsOf outer) g) (F : Fr g L s.heap m) (N : News g L s.heap ((e, oe) :: (T, oT) :: news)) (hF : FlyO C T c2 oe) (hT : TrcO .none oT) (eT : e ≠ T) (ne : ∀ p ∈ news, p.1 ≠ e ∧ p.1 ≠ T)
    (hC : C = 45 ∨ C = 57) (ex : nsIn (NzH.hd.heap_39 w.params) mainGlobals x = some (some (.ref C)))
    (k : ∀ h' g' T' oe' oT', Turned w A₀ base outer mean mg mb g g' → Fr g' L h' m → News g' L h' ((e, oe') :: (T', oT') :: news) → FlyO C T' c2 oe' → TrcO .none oT' → e ≠ T' → (∀ p ∈ news, p.1 ≠ e ∧ p.1 ≠ T') →
      wpAny (model PySem.Challenge.rw_nz0212_01.row.prog w) ((A₀.deeper (envOfC name scope L a cd)).mark (some (.ref e))) (execs (b₀ :: suite) (envOfC name scope L a cd)) Q
        (notedBy (model PySem.Challenge.rw_nz0212_01.row.prog w) ((A₀.deeper (envOfC name scope L a cd)).mark (some (.ref e))) (envOfC name scope L a cd) (cameBackBy (model PySem.Challenge.rw_nz0212_01.row.prog w) (A₀.deeper (envOfC name scope L a cd)) (envOfC name scope L a cd) E)) { s with heap := h' })
    (hk : scope.kind = .function := by rfl) (hx : (envOfC name scope L a cd).kindOf x = some .globalImplicit := by rfl) (hd : (x == ("__debug__" : Str)) = false := by decide) :
    wpAny (model PySem.Challenge.rw_nz0212_01.row.prog w) (A₀.deeper (envOfC name scope L a cd)) (noteFrame (.ref e) (envOfC name scope L a cd))
      (fun _ s₂ => wpAny (model PySem.Challenge.rw_nz0212_01.row.prog w) (A₀.deeper (envOfC name scope L a cd)) (setFlight (.ref e) none) (fun _ s₃ =>
        wpAny (model PySem.Challenge.rw_nz0212_01.row.prog w) (A₀.deeper (envOfC name scope L a cd)) (handleBy (.ref e) (envOfC name scope L a cd) (.ExceptHandler (some (.Name x np)) none (b₀ :: suite) pos :: rest)) Q E s₃) E s₂) E s :=
  caughtX (cl := cellsFrom (L + 1) scope.names []) B XB TB D F N hF hT eT ne hC ex k hk hx hd
end
theorem kw2_NzA2 : True := by
  k_with "55 exec Raise some none" => k_extra "L76"
  k_with "55 call ref" => k_extra "L107"
  k_with "55 nz raise" => k_extra "L78"
  k_with "55 nz exc" => k_extra "L79"
  k_with "55 nz exc" => k_extra "L80"
  k_with "55 nz outX" => k_extra "L81"
  k_with "55 nz steps" => k_extra "L82"
  k_with "55 nz den" => k_extra "L83"
  k_with "55 nz turned" => k_extra "L85"
  k_with "55 nz outX" => k_extra "L86"
  k_with "55 noteFrame ref" => k_extra "L108"
  k_with "55 nz raise" => k_extra "L109"
  k_with "55 nz exc" => k_extra "L110"
  k_with "55 isTrue BoolOp" => k_extra "L105"
  k_with "55 getMethod ref" => k_extra "L93"
  k_with "55 getMethod ref" => k_extra "L94"
  k_with "55 getMethod ref" => k_extra "L95"
  k_with "55 getMethod ref" => k_extra "L96"
  k_with "55 getMethod ref" => k_extra "L97"
  k_with "55 getMethod ref" => k_extra "L98"
  k_with "55 getAttr ref" => k_extra "L99"
  k_with "55 getAttr ref" => k_extra "L100"
  k_with "55 call ref" => k_extra "L101"
  k_with "55 call ref" => k_extra "L87"
  k_with "55 call ref" => k_extra "L111"
  k_with "55 subscriptTail Name Constant ref int" => k_extra "L112"
  k_with "55 ite" => k_extra "L113"
  trivial
theorem rd_room {k : Int} {n : Nat} (h : k < 0 + ((9 - 0 : Int).toNat : Int)) (h2 : ¬ n < 36) : 4 * k + 3 < (n : Int) := by omega
theorem kw3_NzA2 : True := by
  k_with "55 nz om" => k_extra "L114"
  trivial
namespace RdH
def SS (w : World) (b : Array UInt8) (ks : List Int) (tb : Tok) (rest : Led) : Prop := KBw.bInts b = ks → ks.length ≤ 2000 → CtrX w (.ref 163) [.bytes b tb] 40 200 rest rest (fun r l => superOk ks ∧ ∃ x dx D, r = .ref x ∧ (∀ p ∈ rest, p.1 < dx) ∧ @LT.lt Nat instLTNat dx x ∧ IsSuper w.params ks.length (wordI ks 4) (wordI ks 12) (wordI ks 16) (wordI ks 32) D ∧ l = ((x, instObj 154 dx) :: (dx, D) :: rest)) (fun C c2 => C = 57 ∧ ¬ superOk ks)
noncomputable def kk : World × (Array UInt8) × (List Int) × Tok × Led := Classical.epsilon fun y => ¬ SS y.1 y.2.1 y.2.2.1 y.2.2.2.1 y.2.2.2.2
@[irreducible] noncomputable def w : World := kk.1
@[irreducible] noncomputable def b : Array UInt8 := kk.2.1
@[irreducible] noncomputable def ks : List Int := kk.2.2.1
@[irreducible] noncomputable def tb : Tok := kk.2.2.2.1
@[irreducible] noncomputable def rest : Led := kk.2.2.2.2
noncomputable def yy : Fm := Classical.epsilon fun y => ¬ PremY w 163 [.bytes b tb] 40 200 rest rest (fun r l => superOk ks ∧ ∃ x dx D, r = .ref x ∧ (∀ p ∈ rest, p.1 < dx) ∧ @LT.lt Nat instLTNat dx x ∧ IsSuper w.params ks.length (wordI ks 4) (wordI ks 12) (wordI ks 16) (wordI ks 32) D ∧ l = ((x, instObj 154 dx) :: (dx, D) :: rest)) (fun C c2 => C = 57 ∧ ¬ superOk ks) y
end RdH
open RdH in
theorem RdH.main (hb : KBw.bInts b = ks) (hz : ks.length ≤ 2000) : PremY w 163 [.bytes b tb] 40 200 rest rest (fun r l => superOk ks ∧ ∃ x dx D, r = .ref x ∧ (∀ p ∈ rest, p.1 < dx) ∧ @LT.lt Nat instLTNat dx x ∧ IsSuper w.params ks.length (wordI ks 4) (wordI ks 12) (wordI ks 16) (wordI ks 32) D ∧ l = ((x, instObj 154 dx) :: (dx, D) :: rest)) (fun C c2 => C = 57 ∧ ¬ superOk ks) yy := by
  k_dflt (refine' premY_of ?k6 ?hb ?_; (case k6 => (with_unfolding_all rfl)); (case hb => (with_unfolding_all rfl)); k_whole)
  k_fill
  intro cells B F X N Y l1 T XB TB D hd hu
  k_cells Y
  (try simp only [List.cons_append, List.nil_append] at N)
  (with_reducible show wpAny _ _ _ _ _ _)
  k_fold
  have Tn0 := turned_refl (w := w) B X T D
  by_cases h36 : ks.length < 36
  · k_steps
  have wb := word_bound hb
  have e0 : (4 * (0 + 0) : Int).toNat = 0 := rfl
  have e1 : (4 * (0 + 1) : Int).toNat = 4 := rfl
  have e3 : (4 * (0 + 3) : Int).toNat = 12 := rfl
  have e4 : (4 * (0 + 4) : Int).toNat = 16 := rfl
  have e8 : (4 * (0 + 8) : Int).toNat = 32 := rfl
  k_steps
  · (rename ¬ (_ = (270544960 : Int)) => hx)
    refine' raisesV_raw rfl ?Tna ?Fa ?Na ?Ca ?hsa ?la ?hca ?hda ?xa rfl rfl rfl rfl rfl; (case Tna => assumption); (case Fa => k_asm); (case Na => k_asm); (case hsa => walk_at "nz sub"); (case la => assumption); (case hca => assumption); (case Ca => first | exact .inl rfl | exact .inr rfl); (case hda => assumption)
    exact ⟨rfl, fun ok => hx ((if_pos (wb _)).trans ok.2.1)⟩
  · (rename ¬ okI _ _ _ _ _ => nok)
    simp only [if_pos (wb _), e1, e3, e4, e8] at nok
    refine' raises_handled ?Tnb ?XBb ?TBb ?Fb ?Nb ?m1b ?hFb ?hsb ?lb ?hcb ?hdb ?Cb ?xb rfl rfl rfl rfl
    (case Tnb => assumption); (case XBb => assumption); (case TBb => assumption); (case Fb => k_asm); (case Nb => k_asm); (case m1b => exact .head _); (case hFb => assumption); (case hsb => walk_at "nz sub"); (case lb => assumption); (case hcb => assumption); (case Cb => first | exact .inl rfl | exact .inr rfl); (case hdb => assumption)
    exact ⟨rfl, fun ok => nok ok.2.2.1⟩
  · (rename okI _ _ _ _ _ => ok)
    (rename IsSuper _ _ _ _ _ _ _ => hD)
    (rename (_ :: _) = List.map _ _ => hx)
    rw [rk_list wb] at hx
    simp only [if_pos (wb _), e1, e3, e4, e8] at ok hD hx
    (rename (ite _ _ _ = (270544960 : Int)) => hm)
    have hm0 : wordI ks 0 = 270544960 := (if_pos (wb _)).symm.trans hm
    (rename (∀ p ∈ (_, LCg.lst _) :: _, p.1 < _) => l9)
    walk_at "nz outX"
    case P => exact ⟨⟨by omega, hm0, ok, hx⟩, _, _, _, rfl, fun p hp => l9 p (.tail _ (.tail _ hp)), by assumption, hD, rfl⟩
    case N => walk_at "nz news"
  · (rename ¬ ((_ :: _) = List.map _ _) => hx)
    rw [rk_list wb] at hx
    simp only [if_pos (wb _), e1, e3, e4, e8] at hx
    refine' raisesV_raw rfl ?Tnc ?Fc ?Nc ?Cc ?hsc ?lc ?hcc ?hdc ?xc rfl rfl rfl rfl rfl; (case Tnc => assumption); (case Fc => k_asm); (case Nc => k_asm); (case hsc => walk_at "nz sub"); (case lc => assumption); (case hcc => assumption); (case Cc => first | exact .inl rfl | exact .inr rfl); (case hdc => assumption)
    exact ⟨rfl, fun ok => hx ok.2.2.2⟩
open RdH in
theorem RdH.fin (hb : KBw.bInts b = ks) (hz : ks.length ≤ 2000) : CtrX w (.ref 163) [.bytes b tb] 40 200 rest rest (fun r l => superOk ks ∧ ∃ x dx D, r = .ref x ∧ (∀ p ∈ rest, p.1 < dx) ∧ @LT.lt Nat instLTNat dx x ∧ IsSuper w.params ks.length (wordI ks 4) (wordI ks 12) (wordI ks 16) (wordI ks 32) D ∧ l = ((x, instObj 154 dx) :: (dx, D) :: rest)) (fun C c2 => C = 57 ∧ ¬ superOk ks) := by
  have h : ∀ y, PremY w 163 [.bytes b tb] 40 200 rest rest (fun r l => superOk ks ∧ ∃ x dx D, r = .ref x ∧ (∀ p ∈ rest, p.1 < dx) ∧ @LT.lt Nat instLTNat dx x ∧ IsSuper w.params ks.length (wordI ks 4) (wordI ks 12) (wordI ks 16) (wordI ks 32) D ∧ l = ((x, instObj 154 dx) :: (dx, D) :: rest)) (fun C c2 => C = 57 ∧ ¬ superOk ks) y := henk (RdH.main hb hz)
  k_dflt (refine' ctrX_cells (binds := [(Str.ofString "octets", .bytes b tb)]) ?k6 ?k7 ?k9 ?kB ?kD ?c2 ?c3 ?c4 ?_ ?c6; (case k6 => (with_unfolding_all rfl)); (case k7 => (with_unfolding_all rfl)); (case k9 => (intro s X; first | exact BindsTo.of_eq rfl | exact binds_K X rfl (by with_unfolding_all rfl) rfl rfl rfl)); (case kB => exact kindsX rfl); (case kD => decide +kernel); (case c2 => exact rfl); (case c3 => exact rfl); (case c4 => exact rfl); (case c6 => decide); k_whole)
  intro mean mg mb dp un gd env outer base g L cells s B F X N Y l1 T XB TB D hd hu
  (with_unfolding_all refine' h ⟨mean, mg, mb, dp, un, gd, env, outer, base, g, L, s⟩ _ _ _ _ _ _ _ _ _ _ _ _ _ _ _ ?k6 ?zcells ?zB ?zF ?zX ?zN ?zY ?zl1 ?zT ?zXB ?zTB ?zD ?zhd ?zhu)
  (case k6 => with_unfolding_all rfl)
  (case zcells => with_unfolding_all exact cells)
  (case zB => with_unfolding_all exact B)
  (case zF => with_unfolding_all exact F)
  (case zX => with_unfolding_all exact X)
  (case zN => with_unfolding_all exact N)
  (case zY => with_unfolding_all exact Y)
  (case zl1 => with_unfolding_all exact l1)
  (case zT => with_unfolding_all exact T)
  (case zXB => with_unfolding_all exact XB)
  (case zTB => with_unfolding_all exact TB)
  (case zD => with_unfolding_all exact D)
  (case zhd => with_unfolding_all exact hd)
  (case zhu => with_unfolding_all exact hu)
theorem c_read (w : World) (b : Array UInt8) (ks : List Int) (tb : Tok) (rest : Led) (hb : KBw.bInts b = ks) (hz : ks.length ≤ 2000) : CtrX w (.ref 163) [.bytes b tb] 40 200 rest rest (fun r l => superOk ks ∧ ∃ x dx D, r = .ref x ∧ (∀ p ∈ rest, p.1 < dx) ∧ @LT.lt Nat instLTNat dx x ∧ IsSuper w.params ks.length (wordI ks 4) (wordI ks 12) (wordI ks 16) (wordI ks 32) D ∧ l = ((x, instObj 154 dx) :: (dx, D) :: rest)) (fun C c2 => C = 57 ∧ ¬ superOk ks) := by
  refine henk (P := fun y => RdH.SS y.1 y.2.1 y.2.2.1 y.2.2.2.1 y.2.2.2.2) ?_ (w, b, ks, tb, rest) hb hz
  intro hb hz
  with_unfolding_all exact RdH.fin hb hz
end
section
local macro_rules | `(tactic| walk_at $s:str) => `(tactic| k_extra $(Lean.Syntax.mkStrLit ("56 " ++ s.getString)))
local macro_rules | `(tactic| walk_at "nz pad") => `(tactic| skip)
theorem off_NzA3 : True := by
  w_top off
  trivial
open PySem PySem.W PySem.Calls PyProof.Rows
theorem kw0_NzA3 : True := by
  k_with "56 nz pq" => k_extra "L0"
  k_with "56 nz pn" => k_extra "L1"
  k_with "56 nz pi" => k_extra "L2"
  k_with "56 nz pr" => k_extra "L3"
  k_with "56 nz oo" => k_extra "L4"
  k_with "56 nz zz" => k_extra "L5"
  k_with "56 nz om" => k_extra "L6"
  k_with "56 nz enter" => k_extra "L7"
  k_with "56 nz intro" => k_extra "L8"
  k_with "56 nz go" => k_extra "L9"
  k_with "56 nz end" => k_extra "L10"
  k_with "56 subscriptTail" => k_extra "L11"
  k_with "56 setItem ref int" => k_extra "L12"
  k_with "56 nz side" => k_extra "L13"
  k_with "56 nz pick" => k_extra "L14"
  k_with "56 nz sub" => k_extra "L15"
  k_with "56 nz news" => k_extra "L16"
  k_with "56 nz same" => k_extra "L17"
  k_with "56 nz out" => k_extra "L18"
  k_with "56 nz len" => k_extra "L19"
  k_with "56 getMethod str" => k_extra "L30"
  k_with "56 call builtin:str.encode" => k_extra "L31"
  k_with "56 call type:bytes" => k_extra "L32"
  k_with "56 call type:bytes" => k_extra "L33"
  k_with "56 call type:bytes" => k_extra "L34"
  k_with "56 call builtin:isinstance" => k_extra "L35"
  k_with "56 nz size" => k_extra "L36"
  k_with "56 exec Raise some none" => k_extra "L76"
  k_with "56 call ref" => k_extra "L77"
  k_with "56 nz raise" => k_extra "L78"
  k_with "56 nz exc" => k_extra "L79"
  k_with "56 nz exc" => k_extra "L80"
  k_with "56 nz outX" => k_extra "L81"
  k_with "56 nz steps" => k_extra "L82"
  k_with "56 nz den" => k_extra "L83"
  k_with "56 nz turned" => k_extra "L85"
  k_with "56 nz outX" => k_extra "L86"
  k_with "56 call ref" => k_extra "L115"
  k_with "56 noteFrame ref" => k_extra "L88"
  trivial
theorem c_law_read (w : World) (b : Array UInt8) (ks : List Int) (tb : Tok) (rest : Led) (hb : KBw.bInts b = ks) (hz : ks.length ≤ 2000) :
    CtrX w (.ref 259) [.bytes b tb] 45 220 rest rest (fun r l => (superOk ks ∧ ∃ x dx D, r = .ref x ∧ (∀ p ∈ rest, p.1 < dx) ∧ @LT.lt Nat instLTNat dx x ∧ IsSuper w.params ks.length (wordI ks 4) (wordI ks 12) (wordI ks 16) (wordI ks 32) D ∧ l = ((x, instObj 154 dx) :: (dx, D) :: rest)) ∨ (¬ superOk ks ∧ r = .none ∧ l = rest)) (fun C c2 => False) := by
  k_dflt (refine' ctrX_def (binds := [(Str.ofString "octets", .bytes b tb)]) ?k6 ?k7 ?k9 ?kB ?c2 ?c3 ?c4 ?c5 ?_ ?c6; (case k6 => (with_unfolding_all rfl)); (case k7 => (with_unfolding_all rfl)); (case k9 => (intro s X; first | exact BindsTo.of_eq rfl | exact binds_K X rfl (by with_unfolding_all rfl) rfl rfl rfl)); (case kB => exact locs rfl); (case c2 => exact rfl); (case c3 => exact rfl); (case c4 => exact rfl); (case c5 => decide); (case c6 => decide); k_whole)
  k_fill
  intro mean mg mb dp un gd env outer base g L s B F X N T XB TB D hd hu
  (try dsimp only)
  k_fold
  have Tn0 := turned_refl (w := w) B X T D
  k_steps
  · walk_at "nz outX"
    case P => exact .inr ⟨by assumption, rfl, rfl⟩
    case N => walk_at "nz news"
  · (try k_unmd); (try k_unfold)
    walk_at "nz outX"
    case N => k_asm
    case P => exact .inl ⟨by assumption, _, _, _, rfl, by assumption, by assumption, by assumption, rfl⟩
end
section
theorem off_NzC0 : True := by
  w_top off
  trivial
open PySem PySem.W PySem.Calls PyProof.Rows
/-- the same, where a list lies in the ground -/
def CtrCL (w : World) (f : Addr) (vs : List Value) (d u : Nat) (sa : Addr) (sv : Array Value) (news : Led) (Post : Value → Led → Prop) : Prop :=
  ∀ (mean : ExcName → Option Value) (mg mb : Str → Option Value) (dp un : Nat) (gd : Option (List Code)) (A₀ : Around) (env : Env) (outer : List Env) (base h₀ : Heap) (L : Addr) (m : Str → Option Value) (s : Shared) (Q E : Value → Shared → Prop),
    Below A₀ base outer h₀ → Fr h₀ L s.heap m → (NzH.hd.heap_39 w.params).In h₀ → News h₀ L s.heap news →
    Top NzH.hd.view_39 (looseW NzH.hd.view_39 [Str.ofString "BoardError", Str.ofString "Super"]) mean mg mb h₀ →
    h₀.IsList sa sv → env.frame = some L → env.scope.kind = .function → dp + d < recursionLimit → un + u < cLine →
    (∀ r news' h' tk, Post r news' → Fr h₀ L h' m → News h₀ L h' news' → Q r { s with heap := h', toks := tk }) →
    wpC (model PySem.Challenge.rw_nz0212_01.row.prog w) (arK dp un gd env outer) (call (.ref f) vs) Q E s
section
variable {w : World} {f : Addr} {vs : List Value} {d u : Nat} {sa : Addr} {sv : Array Value} {news : Led} {Post : Value → Led → Prop}
  {name qual : Str} {params : Arguments} {body : List Stmt} {scope : Scope} {dV kV doc pm cdv ct oc : Value} {an od : Option Addr} {osl : Array (Option Value)} {binds : List (Str × Value)}
theorem ctrCL_def (ho : (NzH.hd.heap_39 w.params).lookup f = some ⟨oc, od, .func (fnOf name qual params body scope dV kV doc pm an cdv ct), osl⟩) (hcd : codeIn (NzH.hd.heap_39 w.params) cdv qual = true)
    (hbind : bindArgs (fnOf name qual params body scope dV kV doc pm an cdv ct) ⟨vs, []⟩ = pure binds) (hloc : ∀ y ∈ binds, scope.names.lookup y.1 = some .local)
    (hco : scope.isCoroutine = false) (hgen : scope.isGenerator = false) (hk : scope.kind = .function) (hcell : ∀ x ∈ scope.names, x.2 ≠ .cell)
    (h : ∀ (mean : ExcName → Option Value) (mg mb : Str → Option Value) (dp un : Nat) (gd : Option (List Code)) (env : Env) (outer : List Env) (base g : Heap) (L : Addr) (s : Shared),
      Below (arK dp un gd env outer) base (env :: outer) g → Fr g L s.heap (fun y => binds.reverse.lookup y) → (NzH.hd.heap_39 w.params).In g → News g L s.heap news →
      Top NzH.hd.view_39 (looseW NzH.hd.view_39 [Str.ofString "BoardError", Str.ofString "Super"]) mean mg mb g → g.IsList sa sv → dp + d < recursionLimit → un + u < cLine →
      wpC (model PySem.Challenge.rw_nz0212_01.row.prog w) ((arK dp un gd env outer).deeper (envOf qual scope L f cdv)) (execs body (envOf qual scope L f cdv)) (EndQ Post g L s) (fun _ _ => False) s) :
    CtrCL w f vs d u sa sv news Post := by
  intro mean mg mb dp un gd A₀ env outer base h₀ L m s Q E B F X N T hls hf hke hd hu hQ
  refine wpC_call ?_
  have hX := X.keeps F.keep
  obtain ⟨FG, BG, st, lv⟩ := groundX (R := fun r s' => match r with | .ok (.ret v) => Q v s' | .ok _ => False | .error e => E e s') B F N rfl hf hke (A := arK dp un gd env outer)
  refine codeC_of_tree ?_
  show wpC _ (arK dp un gd env outer).in1 (callAny (.ref f) ⟨vs, []⟩) _ _ s
  refine wpC_any ?_
  simp only [callAny]
  refine wpAny_bind (wpAny_load (hX _ _ ho) ?_)
  obtain ⟨c, o2, vs2, tq, hc, hoc, hdc, hq⟩ := codeRec_of hX hcd
  subst hc
  simp only [callFunction, hco, hgen]
  refine wpAny_bind (m := field (.ref c) 1) (wpAny_field hoc hdc hq (wpAny_bind (wpAny_pure ?_)))
  refine wpAny_bind ?_
  rw [hbind]
  refine wpAny_pure (wpAny_bind (wpAny_newFunctionEnv hcell hloc (fun h₁ hns hsb => ?_) hk))
  have hk₁ : ∀ b o, s.heap.get? b = some o → h₁.get? b = some o := fun b o e => hsb.extBut b o (Nat.ne_of_lt (Heap.lt_size e)) (Heap.get?_push_of_some _ e)
  refine wpAny_bind (wpAny_enterFrame ((T.nolimit.keeps F.keep).fresh _ hsb) (show dp < recursionLimit by omega) (wpAny_pure ⟨rfl, rfl, ?_⟩))
  refine codeC_func rfl ?_
  refine wpC_mono (h mean mg mb dp un gd env outer base _ s.heap.objs.size { s with heap := h₁, toks := s.toks + binds.length } BG
    ⟨hns, fun b o e => hk₁ b o (of_hideAll _ e), Nat.le_of_eq (hideAll_size _ _)⟩ (X.keeps st)
    (fun p hp => ⟨hk₁ _ _ (N p hp).1, Nat.ne_of_lt (Heap.lt_size (N p hp).1), hideAll_none _ (List.mem_map_of_mem hp)⟩) (T.keeps st) (hls.at fun o e => FG.keep _ _ e) hd hu) (fun fl s' e => ?_) fun _ _ e => e
  obtain ⟨m', news', F2, N2, hP, e1, e2, e3⟩ := e
  refine lv _ _ (leaveK_ F2 N2 fun F3 N3 => ?_)
  obtain ⟨hp, ge, dr, tk, os⟩ := s'
  dsimp only at e1 e2 e3 F3 N3
  subst e1; subst e2; subst e3
  have := hQ _ _ _ tk hP F3 N3
  cases fl <;> exact this
theorem CtrCL.use (C : CtrCL w f vs d u sa sv news Post) {mean : ExcName → Option Value} {mg mb : Str → Option Value} {dp un : Nat} {gd : Option (List Code)} {A₀ : Around} {env : Env} {outer : List Env} {base h₀ : Heap} {L : Addr} {m : Str → Option Value} {s : Shared} {Q E : Value → Shared → Prop} {led : Led}
    (B : Below A₀ base outer h₀) (F : Fr h₀ L s.heap m) (X : (NzH.hd.heap_39 w.params).In h₀) (N : News h₀ L s.heap led)
    (T : Top NzH.hd.view_39 (looseW NzH.hd.view_39 [Str.ofString "BoardError", Str.ofString "Super"]) mean mg mb h₀)
    (hs : ∀ p ∈ news, p ∈ led) (hls : h₀.IsList sa sv) (hf : env.frame = some L) (hk : env.scope.kind = .function) (hd : dp + d < recursionLimit) (hu : un + u < cLine)
    (h : ∀ r news' h' tk, Post r news' → Fr h₀ L h' m → News h₀ L h' news' → Q r { s with heap := h', toks := tk }) :
    wpC (model PySem.Challenge.rw_nz0212_01.row.prog w) (arK dp un gd env outer) (call (.ref f) vs) Q E s := by
  have N' : News h₀ L s.heap news := fun p hp => N p (hs p hp)
  unfold CtrCL at C
  exact C mean mg mb dp un gd A₀ env outer base h₀ L m s Q E B F X N' T hls hf hk hd hu h
end
end
section
local macro_rules | `(tactic| walk_at $s:str) => `(tactic| k_extra $(Lean.Syntax.mkStrLit ("58 " ++ s.getString)))
local macro_rules | `(tactic| walk_at "nz pad") => `(tactic| skip)
local macro_rules | `(tactic| walk_at "nz pad") => `(tactic| skip)
theorem off_NzC1 : True := by
  w_top off
  trivial
open PySem PySem.W PySem.Calls PyProof.Rows
theorem kw0_NzC1 : True := by
  k_with "58 nz pq" => k_extra "L0"
  k_with "58 nz pn" => k_extra "L1"
  k_with "58 nz pi" => k_extra "L2"
  k_with "58 nz pr" => k_extra "L3"
  k_with "58 nz oo" => k_extra "L4"
  k_with "58 nz zz" => k_extra "L5"
  k_with "58 nz om" => k_extra "L6"
  k_with "58 nz enter" => k_extra "L7"
  k_with "58 nz intro" => k_extra "L8"
  k_with "58 nz go" => k_extra "L9"
  k_with "58 nz end" => k_extra "L10"
  k_with "58 subscriptTail" => k_extra "L11"
  k_with "58 setItem ref int" => k_extra "L12"
  k_with "58 nz side" => k_extra "L13"
  k_with "58 nz pick" => k_extra "L14"
  k_with "58 nz sub" => k_extra "L15"
  k_with "58 nz news" => k_extra "L16"
  k_with "58 nz same" => k_extra "L17"
  k_with "58 nz out" => k_extra "L18"
  k_with "58 nz len" => k_extra "L19"
  k_with "58 getMethod str" => k_extra "L30"
  k_with "58 call builtin:str.encode" => k_extra "L31"
  k_with "58 call type:bytes" => k_extra "L32"
  k_with "58 call type:bytes" => k_extra "L33"
  k_with "58 call type:bytes" => k_extra "L34"
  k_with "58 call builtin:isinstance" => k_extra "L35"
  k_with "58 nz size" => k_extra "L36"
  k_with "58 nz enterC" => k_extra "L40"
  k_with "58 nz introC" => k_extra "L41"
  k_with "58 nz goC" => k_extra "L42"
  k_with "58 nz steps" => k_extra "L43"
  k_with "58 last wpC" => k_extra "L44"
  k_with "58 wpC" => k_extra "L45"
  k_with "58 wpC" => k_extra "L46"
  k_with "58 wpC" => k_extra "L47"
  k_with "58 wpC" => k_extra "L48"
  k_with "58 wpC" => k_extra "L49"
  k_with "58 wpC" => k_extra "L50"
  k_with "58 wpC" => k_extra "L51"
  k_with "58 wpC" => k_extra "L52"
  k_with "58 wpC" => k_extra "L53"
  k_with "58 wpC" => k_extra "L54"
  k_with "58 wpC" => k_extra "L55"
  k_with "58 wpC" => k_extra "L56"
  k_with "58 wpC" => k_extra "L57"
  k_with "58 wpC" => k_extra "L58"
  k_with "58 wpC" => k_extra "L59"
  k_with "58 wpC" => k_extra "L60"
  k_with "58 wpC" => k_extra "L61"
  k_with "58 getMethod ref" => k_extra "L62"
  k_with "58 wpC" => k_extra "L63"
  k_with "58 nz turn" => k_extra "L64"
  trivial
theorem pool_turn {g : Heap} {L I D sa : Addr} {o : Obj} {ws : List Value} {news : Led} {s₀ s' : Shared} {Q : Flow → Shared → Prop} {n wh : Int} {t tw : Tok} {v : Option Value}
    (F : Fr g L s'.heap (fun y => if y = Str.ofString "whole" then some (.int n t) else if y = Str.ofString "cell" then v else if y = Str.ofString "whole" then some (.int wh tw) else List.lookup y [(Str.ofString "script", .ref sa)]))
    (N : News g L s'.heap ((I, o) :: (D, listOf ws.toArray 0) :: news)) (off : ∀ p ∈ (D, listOf ws.toArray 0) :: news, p.1 ≠ I) (S : Same s₀ s') (hn : 0 ≤ n) :
    TurnQ (σ := Int × Tok) g L (Str.ofString "cell") (fun c y => if y = Str.ofString "whole" then some (.int c.1 c.2) else List.lookup y [(Str.ofString "script", .ref sa)]) (fun _ => (D, listOf ws.toArray 0) :: news) (fun c => 0 ≤ c.1) I o s₀ Q .next s' :=
  turnQ_of (n, t) F (fun y hy => by by_cases h : y = Str.ofString "whole" <;> simp [h, hy]) N off hn S
theorem c_pool (w : World) (sa : Addr) (sv : List Value) (ks : List Int) (news : Led) (hi : IntsAre sv ks) (hz : ks.length ≤ 63) :
    CtrCL w 205 [.ref sa] 5 24 sa sv.toArray news (fun r l => ∃ pa o, r = .ref pa ∧ IsPool o 0 ∧ l = (pa, o) :: news ∧ ∀ p ∈ news, p.1 < pa) := by
  k_dflt (refine' ctrCL_def (binds := [(Str.ofString "script", .ref sa)]) ?k6 ?k7 ?k9 ?kB ?c2 ?c3 ?c4 ?c5 ?_; (case k6 => (with_unfolding_all rfl)); (case k7 => (with_unfolding_all rfl)); (case k9 => exact rfl); (case kB => exact locs rfl); (case c2 => exact rfl); (case c3 => exact rfl); (case c4 => exact rfl); (case c5 => decide); k_whole)
  k_fill
  intro mean mg mb dp un gd env outer base g L s B F X N T hls hd hu
  (try dsimp only)
  k_steps
  (rename (∀ p ∈ news, p.1 < _) => l1)
  (rename IntsAre _ (List.take 24 ks) => hi2)
  k_dflt (refine' forC_list (m₀ := _) (σ := Int × Tok) (fun c y => if y = Str.ofString "whole" then some (.int c.1 c.2) else List.lookup y [(Str.ofString "script", .ref sa)]) (fun _ => (_, listOf _ 0) :: news) (fun _ c => 0 ≤ c.1) (0, s.toks) (fun _ => .head _) rfl ?F ?N sub_rfl ?h0 ?hm ?turn ?done; (case F => k_asm); (case N => k_asm))
  case hm => exact fun y hy => rfl
  case h0 => exact Int.le_refl _
  case turn =>
    intro i v c I o s' hx hP off F1 N1 hS
    obtain ⟨wh, tw⟩ := c
    dsimp only at hP F1 N1
    obtain ⟨k, tk, rfl⟩ : ∃ k tk, v = .int k tk := by
      obtain ⟨a, _, hk⟩ := hi2.areOf.get i v (by simpa using hx)
      obtain ⟨tk, rfl⟩ := hk
      exact ⟨_, _, rfl⟩
    k_steps
    all_goals (exact pool_turn (by k_asm) (by k_asm) off (Same.trans hS ⟨rfl, rfl, rfl⟩) (by first | assumption | omega | exact Int.fmod_nonneg_of_pos _ (Int.pow_pos (by decide)) | exact Int.fmod_nonneg_of_pos _ (by decide +kernel)))
  case done =>
    intro v c s' hP F1 N1 hS
    obtain ⟨wh, tw⟩ := c
    dsimp only at hP F1 N1
    k_steps
    (try k_unmd); (try k_unfold); (try dsimp only); (try k_unfold); (try dsimp only)
    (rename (_ < _ ∧ AllLt _ _) => l8)
    walk_at "nz out"
    case P => exact ⟨_, _, rfl, ⟨wh, 0, tw, s'.toks, 0, rfl, hP, Int.le_refl _, Int.le_refl _⟩, rfl, allLt_lt l8.2⟩
    case N => walk_at "nz news"
end
section
theorem off_NzE0 : True := by
  w_top off
  trivial
open PySem PySem.W PySem.Calls PyProof.Rows
/-- what a call does, for calm stacks, over a ground that it may turn; it does not raise -/
def CtrD (w : World) (f : Addr) (vs : List Value) (d u : Nat) (news : Led) (Post : Value → Led → Prop) : Prop :=
  ∀ (mean : ExcName → Option Value) (mg mb : Str → Option Value) (dp un : Nat) (gd : Option (List Code)) (A₀ : Around) (env : Env) (outer : List Env) (base h₀ : Heap) (L : Addr) (m : Str → Option Value) (s : Shared) (Q E : Value → Shared → Prop),
    Below A₀ base outer h₀ → Fr h₀ L s.heap m → (NzH.hd.heap_39 w.params).In h₀ → News h₀ L s.heap news → TopN mean mg mb h₀ → (NzH.hd.heap_39 w.params).In base → TopN mean mg mb base → KtsDicts (fsOf outer) h₀ →
    env.frame = some L → env.scope.kind = .function → dp + d < recursionLimit → un + u < cLine →
    (∀ r news' h₁ h' tk, Post r news' → Turned w A₀ base outer mean mg mb h₀ h₁ → Fr h₁ L h' m → News h₁ L h' news' → Q r { s with heap := h', toks := tk }) →
    wpC (model PySem.Challenge.rw_nz0212_01.row.prog w) (arK dp un gd env outer) (call (.ref f) vs) Q E s
theorem CtrD.use {w : World} {f : Addr} {vs : List Value} {d u : Nat} {news : Led} {Post : Value → Led → Prop} (C : CtrD w f vs d u news Post) {mean : ExcName → Option Value} {mg mb : Str → Option Value} {dp un : Nat} {gd : Option (List Code)} {A₀ : Around} {env : Env} {outer : List Env} {base h₀ : Heap} {L : Addr} {m : Str → Option Value} {s : Shared} {Q E : Value → Shared → Prop} {led : Led}
    (B : Below A₀ base outer h₀) (F : Fr h₀ L s.heap m) (X : (NzH.hd.heap_39 w.params).In h₀) (N : News h₀ L s.heap led) (T : TopN mean mg mb h₀) (XB : (NzH.hd.heap_39 w.params).In base) (TB : TopN mean mg mb base) (D : KtsDicts (fsOf outer) h₀)
    (hs : ∀ p ∈ news, p ∈ led) (hf : env.frame = some L) (hk : env.scope.kind = .function) (hd : dp + d < recursionLimit) (hu : un + u < cLine)
    (h : ∀ r news' h₁ h' tk, Post r news' → Turned w A₀ base outer mean mg mb h₀ h₁ → Fr h₁ L h' m → News h₁ L h' news' → Q r { s with heap := h', toks := tk }) :
    wpC (model PySem.Challenge.rw_nz0212_01.row.prog w) (arK dp un gd env outer) (call (.ref f) vs) Q E s := by
  unfold CtrD at C
  exact C mean mg mb dp un gd A₀ env outer base h₀ L m s Q E B F X (fun p hp => N p (hs p hp)) T XB TB D hf hk hd hu h
section
variable {w : World} {f : Addr} {vs : List Value} {d u : Nat} {news keep : Led} {Post : Value → Led → Prop} {Exc : Addr → Value → Prop}
  {name qual : Str} {params : Arguments} {body : List Stmt} {scope : Scope} {dV kV doc pm cdv ct oc : Value} {an od : Option Addr} {osl : Array (Option Value)} {binds : List (Str × Value)}
theorem ctrD_cells (ho : (NzH.hd.heap_39 w.params).lookup f = some ⟨oc, od, .func (fnX name qual params body scope [] dV kV doc pm an cdv ct), osl⟩) (hcd : codeIn (NzH.hd.heap_39 w.params) cdv qual = true)
    (hbind : bindArgs (fnX name qual params body scope [] dV kV doc pm an cdv ct) ⟨vs, []⟩ = pure binds)
    (hkind : ∀ n, ∀ x ∈ binds, scope.names.lookup x.1 = some .local ∨ (scope.names.lookup x.1 = some .cell ∧ ((cellsFrom n scope.names []).lookup x.1).isSome = true))
    (hnd : ((cellsFrom 0 scope.names []).map (·.1)).Nodup)
    (hco : scope.isCoroutine = false) (hgen : scope.isGenerator = false) (hk : scope.kind = .function)
    (h : ∀ (mean : ExcName → Option Value) (mg mb : Str → Option Value) (dp un : Nat) (gd : Option (List Code)) (env : Env) (outer : List Env) (base g : Heap) (L : Addr) (cells : Led) (s : Shared),
      Below (arK dp un gd env outer) base (env :: outer) g → Fr g L s.heap (bindL (envOfC qual scope L f cdv).kindOf binds fun _ => none) → (NzH.hd.heap_39 w.params).In g → News g L s.heap (cells ++ news) →
      CellsAre (bindC (envOfC qual scope L f cdv).kindOf binds fun _ => none) (cellsFrom (L + 1) scope.names []) cells → (∀ p ∈ news, p.1 < L) →
      TopN mean mg mb g → (NzH.hd.heap_39 w.params).In base → TopN mean mg mb base → KtsDicts (fsOf (env :: outer)) g → dp + d < recursionLimit → un + u < cLine →
      wpC (model PySem.Challenge.rw_nz0212_01.row.prog w) ((arK dp un gd env outer).deeper (envOfC qual scope L f cdv)) (execs body (envOfC qual scope L f cdv)) (EndX w (arK dp un gd env outer) base (env :: outer) mean mg mb Post g L s) (fun _ _ => False) s) :
    CtrD w f vs d u news Post := by
  intro mean mg mb dp un gd A₀ env outer base h₀ L m s Q E B F X N T XB TB D hf hke hd hu hQ
  refine wpC_call ?_
  have hX := X.keeps F.keep
  obtain ⟨FG, BG, st, _⟩ := groundX (R := fun _ _ => True) B F N rfl hf hke (A := arK dp un gd env outer)
  refine codeC_of_tree ?_
  show wpC _ (arK dp un gd env outer).in1 (callAny (.ref f) ⟨vs, []⟩) _ _ s
  refine wpC_any ?_
  simp only [callAny]
  refine wpAny_bind (wpAny_load (hX _ _ ho) ?_)
  obtain ⟨c, o2, vs2, tq, hc, hoc, hdc, hq⟩ := codeRec_of hX hcd
  subst hc
  simp only [callFunction, hco, hgen]
  refine wpAny_bind (m := field (.ref c) 1) (wpAny_field hoc hdc hq (wpAny_bind (wpAny_pure ?_)))
  refine wpAny_bind ?_
  rw [hbind]
  refine wpAny_pure (wpAny_bind (wpAny_newFunctionEnv_cells hk (hkind _) fun env' he s₁ x => ?_))
  subst he
  obtain ⟨h₁, tk, rfl, _⟩ := x.done
  have hk₁ := x.toInCall.keep
  refine wpAny_bind (wpAny_enterFrame ((T.nolimit.keeps F.keep).keeps hk₁) (show dp < recursionLimit by omega) (wpAny_pure ⟨rfl, rfl, ?_⟩))
  refine codeC_func rfl ?_
  obtain ⟨cells, NC, Y⟩ := Cl.news (h₀ := s.heap) (Nat.le_refl _) fun n c hm => ⟨x.cell n c (lookup_of_mem_nodup (cellsFrom_names scope.names 0 (s.heap.objs.size + 1) [] [] rfl ▸ hnd) hm), x.above n c hm⟩
  have gone : ∀ {b}, s.heap.get? b = none → (hideAll s.heap (news.map (·.1))).get? b = none := fun {b} z => by
    cases q : (hideAll s.heap (news.map (·.1))).get? b with
    | none => rfl
    | some o => rw [of_hideAll _ q] at z; cases z
  refine wpC_mono (h mean mg mb dp un gd env outer base _ s.heap.objs.size cells { s with heap := h₁, toks := tk } BG ⟨x.toInCall.ns, fun b o e => hk₁ b o (of_hideAll _ e), Nat.le_of_eq (hideAll_size _ _)⟩ (X.keeps st) (fun p hp => ?_) Y (fun p hp => Heap.lt_size (N p hp).1)
    (T.keeps st) XB TB (ground_dicts FG D hf) hd hu) (fun fl s' e => ?_) fun _ _ e => e
  · rcases List.mem_append.mp hp with hp | hp
    · exact ⟨(NC p hp).1, (NC p hp).2.1, gone (NC p hp).2.2⟩
    · exact ⟨hk₁ _ _ (N p hp).1, Nat.ne_of_lt (Heap.lt_size (N p hp).1), hideAll_none _ (List.mem_map_of_mem hp)⟩
  · have := ends_ok (s := s) B XB TB D FG hf hQ rfl rfl rfl e
    cases fl <;> exact this
end
end
section
theorem off_NzF1 : True := by
  w_top off
  trivial
open PySem PySem.W PySem.Calls PyProof.Rows PySem.SeqAt
theorem BytesAre.same {j : Nat} : ∀ {vs us : List Value} {nss : List (List Int)}, BytesAre vs nss → BytesAre us nss → ∀ (h1 : j < vs.length) (h2 : j < us.length), ∃ b t t', vs[j] = .bytes b t ∧ us[j] = .bytes b t' := by
  induction j with
  | zero =>
    rintro _ _ _ (_ | ⟨b, t, hb, h⟩) k h1 h2
    · exact absurd h1 (Nat.not_lt_zero _)
    · rcases k with _ | ⟨b', t', hb', k⟩
      exact ⟨b, t, t', rfl, by rw [bInts_inj (hb.trans hb'.symm)]; rfl⟩
  | succ j ih =>
    rintro _ _ _ (_ | ⟨b, t, hb, h⟩) k h1 h2
    · exact absurd h1 (Nat.not_lt_zero _)
    · rcases k with _ | ⟨b', t', hb', k⟩
      exact ih h k (Nat.lt_of_succ_lt_succ h1) (Nat.lt_of_succ_lt_succ h2)
section
variable {prog : Program} {w : World} {A : Around} {E : Value → Shared → Prop} {s : Shared}
theorem eqAt_bytes (b : Array UInt8) (t t' : Tok) : EqAt A s (.bytes b t) (.bytes b t') true := fun prog w E Q h => by
  unfold eqBool
  refine wpAny_holding ?_
  refine wpAny_ite_split (fun _ => ?_) (fun _ => ?_)
  · exact wpAny_bind (wpAny_rule (wpAny_pure h))
  · exact wpAny_bind (show wpAny _ _ (compareOp .Eq _ _) _ _ _ from eq_bytes (by rw [beq_self_eq_true]; exact wpAny_truthy_bool h))
theorem ne_bytes_same {la lb : Addr} {vs us : List Value} {nss : List (List Int)} {Q : Value → Shared → Prop} (ha : s.heap.IsList la vs.toArray) (hb : s.heap.IsList lb us.toArray) (h1 : BytesAre vs nss) (h2 : BytesAre us nss) (hu : A.units < cLine) (h : Q (.bool false) s) :
    wpAny (model prog w) A (compareOp .NotEq (.ref la) (.ref lb)) Q E s := by
  have k := RcNeAt.lists (A := A) (e := fun _ => true) ha hb (by simp [h1.length, h2.length]) hu fun j j1 j2 => by
    obtain ⟨b, t, t', e1, e2⟩ := h1.same h2 (by simpa using j1) (by simpa using j2)
    have e1' : vs.toArray[j] = .bytes b t := by simpa using e1
    have e2' : us.toArray[j] = .bytes b t' := by simpa using e2
    rw [e1', e2']
    exact eqAt_bytes b t t'
  have e : (List.range vs.toArray.size).all (fun _ => true) = true := List.all_eq_true.mpr fun _ _ => rfl
  rw [e] at k
  exact k prog w E Q h
end
end
section
theorem off_NzQ1 : True := by
  w_top off
  trivial
open PySem PySem.W PySem.Calls PyProof.Rows
/-- a turned list, read -/
theorem getD_set {ks : List Int} {i : Nat} {v : Int} (h : i < ks.length) (j : Nat) : (ks.set i v).getD j 0 = if j = i then v else ks.getD j 0 := by
  simp only [List.getD_eq_getElem?_getD, List.getElem?_set]
  by_cases e : i = j
  · subst e; simp [h]
  · rw [if_neg e, if_neg (fun q => e q.symm)]
theorem getD_putHalf {ks : List Int} {i : Nat} {v : Int} (h : i + 1 < ks.length) (j : Nat) : (putHalf ks i v).getD j 0 = if j = i + 1 then v / 256 % 256 else if j = i then v % 256 else ks.getD j 0 := by
  unfold putHalf
  rw [getD_set (by simp; omega), getD_set (by omega)]
theorem getD_putWord {ks : List Int} {i : Nat} {v : Int} (h : i + 3 < ks.length) (j : Nat) : (putWord ks i v).getD j 0 = if j = i + 3 then v / 65536 % 65536 / 256 % 256 else if j = i + 2 then v / 65536 % 65536 % 256 else if j = i + 1 then v % 65536 / 256 % 256 else if j = i then v % 65536 % 256 else ks.getD j 0 := by
  unfold putWord
  rw [getD_putHalf (by rw [putHalf_length]; omega), getD_putHalf (by omega)]
theorem word_put {ks : List Int} {i : Nat} {v : Int} (h : i + 3 < ks.length) (h0 : 0 ≤ v) (h1 : v < 4294967296) : wordI (putWord ks i v) i = v := by
  unfold wordI halfI
  simp only [getD_putWord h]
  have e1 : ¬ i = i + 3 := by omega
  have e2 : ¬ i = i + 2 := by omega
  have e3 : ¬ i = i + 1 := by omega
  have e4 : ¬ i + 1 = i + 3 := by omega
  have e5 : ¬ i + 1 = i + 2 := by omega
  have e6 : ¬ i + 2 = i + 3 := by omega
  simp only [if_neg e1, if_neg e2, if_neg e3, if_neg e4, if_neg e5, if_neg e6, if_true]
  omega
theorem word_off {ks : List Int} {i j : Nat} {v : Int} (h : i + 3 < ks.length) (o : j + 3 < i ∨ i + 3 < j) : wordI (putWord ks i v) j = wordI ks j := by
  unfold wordI halfI
  simp only [getD_putWord h]
  rw [if_neg (by omega), if_neg (by omega), if_neg (by omega), if_neg (by omega), if_neg (by omega), if_neg (by omega), if_neg (by omega), if_neg (by omega), if_neg (by omega), if_neg (by omega), if_neg (by omega), if_neg (by omega), if_neg (by omega), if_neg (by omega), if_neg (by omega), if_neg (by omega)]
theorem word_pws (ws ks : List Int) (hv : ∀ v ∈ ws, 0 ≤ v ∧ v < 4294967296) : ∀ n j, n ≤ ws.length → 4 * n ≤ ks.length → j < n → wordI (pws ws n ks) (4 * j) = ws.getD j 0
  | 0, j, _, _, h => absurd h (Nat.not_lt_zero j)
  | n + 1, j, h1, h2, h3 => by
    rw [pws]
    by_cases e : j = n
    · subst e
      have hm : ws.getD j 0 ∈ ws := by rw [List.getD_eq_getElem?_getD, List.getElem?_eq_getElem (by omega)]; exact List.getElem_mem _
      exact word_put (by rw [pws_length]; omega) (hv _ hm).1 (hv _ hm).2
    · rw [word_off (by rw [pws_length]; omega) (.inl (by omega))]
      exact word_pws ws ks hv n j (by omega) (by omega) (by omega)
theorem getD_pws (ws ks : List Int) : ∀ n j, 4 * n ≤ ks.length → 4 * n ≤ j → (pws ws n ks).getD j 0 = ks.getD j 0
  | 0, j, _, _ => rfl
  | n + 1, j, h1, h2 => by
    rw [pws, getD_putWord (by rw [pws_length]; omega), if_neg (by omega), if_neg (by omega), if_neg (by omega), if_neg (by omega)]
    exact getD_pws ws ks n j (by omega) (by omega)
theorem ext_getD {a b : List Int} (h : a.length = b.length) (e : ∀ i, a.getD i 0 = b.getD i 0) : a = b := by
  refine List.ext_getElem h fun i h1 h2 => ?_
  have := e i
  simpa only [List.getD_eq_getElem?_getD, List.getElem?_eq_getElem h1, List.getElem?_eq_getElem h2, Option.getD_some] using this
theorem getD_drop (ks : List Int) (n i : Nat) : (ks.drop n).getD i 0 = ks.getD (n + i) 0 := by
  simp only [List.getD_eq_getElem?_getD, List.getElem?_drop]
theorem getD_zero (n i : Nat) : (List.replicate n (0 : Int)).getD i 0 = 0 := by
  simp only [List.getD_eq_getElem?_getD, List.getElem?_replicate]
  split <;> rfl
theorem pws_rest (ws : List Int) (n : Nat) (h : 36 ≤ n) : (pws ws 9 (List.replicate n 0)).drop 36 = List.replicate (n - 36) 0 := by
  refine ext_getD (by simp [pws_length]) fun i => ?_
  rw [getD_drop, getD_pws ws _ 9 (36 + i) (by simp; omega) (by omega), getD_zero, getD_zero]
theorem place_inj {r R k l : Int} (hr : 0 < r) (hR : 0 < R) (h1 : k / r = l / r) (h2 : k % r * R = l % r * R) : k = l := by
  have e : k % r = l % r := Int.eq_of_mul_eq_mul_right (Int.ne_of_gt hR) h2
  rw [← Int.mul_ediv_add_emod k r, ← Int.mul_ediv_add_emod l r, h1, e]
theorem place_fits {a r R k : Int} (hr : 0 < r) (hR : 0 < R) (ha : r * R ≤ a) : k % r * R + R ≤ a := by
  have h := Int.emod_lt_of_pos k hr
  have h2 : (k % r + 1) * R ≤ r * R := Int.mul_le_mul_of_nonneg_right (by omega) (by omega)
  rw [Int.add_mul, Int.one_mul] at h2
  omega
theorem ceil_lt {k n z : Int} (hz : 0 < z) (h1 : k < n) : k / z < (n + z - 1) / z := by
  have e : (n + z - 1) / z = (n - 1) / z + 1 := by
    rw [show n + z - 1 = (n - 1) + z from by omega, Int.add_ediv_of_dvd_right (Int.dvd_refl z), Int.ediv_self (by omega)]
  rw [e]
  exact Int.lt_add_one_of_le (Int.ediv_le_ediv hz (by omega))
theorem pow8f : ∀ i j : Fin 8, (2 : Int) ^ i.val = 2 ^ j.val → i = j := by decide
theorem pow_inj8 {x y : Int} (h0 : 0 ≤ x) (h1 : x < 8) (k0 : 0 ≤ y) (k1 : y < 8) (h : (2 : Int) ^ x.toNat = 2 ^ y.toNat) : x = y := by
  have hx : x.toNat < 8 := by omega
  have hy : y.toNat < 8 := by omega
  have e := congrArg Fin.val (pow8f ⟨x.toNat, hx⟩ ⟨y.toNat, hy⟩ h)
  have e : x.toNat = y.toNat := e
  omega
theorem bit_inj {a k l : Int} (ha : 0 < a) (h1 : k / 8 / a = l / 8 / a) (h2 : k / 8 % a = l / 8 % a) (h3 : (2 : Int) ^ (k % 8).toNat = 2 ^ (l % 8).toNat) : k = l := by
  have e1 : k / 8 = l / 8 := by rw [← Int.mul_ediv_add_emod (k / 8) a, ← Int.mul_ediv_add_emod (l / 8) a, h1, h2]
  have e2 : k % 8 = l % 8 := pow_inj8 (by omega) (by omega) (by omega) (by omega) h3
  omega
theorem bit_low {a k n : Int} (ha : 0 < a) (h : k < n) : k / 8 / a < (n + 8 * a - 1) / (8 * a) := by
  rw [Int.ediv_ediv_of_nonneg (by decide : (0 : Int) ≤ 8)]
  exact ceil_lt (by omega) h
end
section
theorem off_NzG0 : True := by
  w_top off
  trivial
open PySem PySem.W PySem.Calls PyProof.Rows
section
variable {w : World} {f : Addr} {vs : List Value} {d u : Nat} {news : Led} {Post : Value → Led → Prop}
  {name qual : Str} {params : Arguments} {body : List Stmt} {scope : Scope} {dV kV doc pm cdv ct oc : Value} {an od : Option Addr} {osl : Array (Option Value)} {binds : List (Str × Value)}
/-- a def some of whose locals lie in cells; it does not raise -/
theorem ctr_cells (ho : (NzH.hd.heap_39 w.params).lookup f = some ⟨oc, od, .func (fnOf name qual params body scope dV kV doc pm an cdv ct), osl⟩) (hcd : codeIn (NzH.hd.heap_39 w.params) cdv qual = true)
    (hbind : bindArgs (fnOf name qual params body scope dV kV doc pm an cdv ct) ⟨vs, []⟩ = pure binds)
    (hkind : (binds.all fun y => scope.names.lookup y.1 == some .local || scope.names.lookup y.1 == some .cell) = true)
    (hnd : ((cellsFrom 0 scope.names []).map (·.1)).Nodup)
    (hco : scope.isCoroutine = false) (hgen : scope.isGenerator = false) (hk : scope.kind = .function)
    (h : ∀ (mean : ExcName → Option Value) (mg mb : Str → Option Value) (dp un : Nat) (gd : Option (List Code)) (env : Env) (outer : List Env) (base g : Heap) (L : Addr) (cells : Led) (s : Shared),
      Below (arK dp un gd env outer) base (env :: outer) g → Fr g L s.heap (bindL (envOfC qual scope L f cdv).kindOf binds fun _ => none) → (NzH.hd.heap_39 w.params).In g → News g L s.heap (cells ++ news) →
      CellsAre (bindC (envOfC qual scope L f cdv).kindOf binds fun _ => none) (cellsFrom (L + 1) scope.names []) cells → (∀ p ∈ news, p.1 < L) →
      Top NzH.hd.view_39 (looseW NzH.hd.view_39 [Str.ofString "BoardError", Str.ofString "Super"]) mean mg mb g → dp + d < recursionLimit → un + u < cLine →
      wpAny (model PySem.Challenge.rw_nz0212_01.row.prog w) ((arK dp un gd env outer).deeper (envOfC qual scope L f cdv)) (execs body (envOfC qual scope L f cdv)) (EndQ Post g L s) (fun _ _ => False) s) :
    Ctr w f vs d u news Post NoE := by
  intro mean mg mb dp un gd A₀ env outer base h₀ L m s Q E B F X N T hf hke hd hu hQ _
  refine wpAny_call (code_defC B F X N T rfl hf hke ho hcd (show dp < recursionLimit by omega) (BindsTo.of_eq hbind) hkind hnd (fun g L' h₁ tk cells FG F' N' Y B' X' T' l1 => ?_) hco hgen hk)
  refine wpAny_mono (h mean mg mb dp un gd env outer base g L' cells { s with heap := h₁, toks := tk } B' F' X' N' Y l1 T' hd hu) (fun fl s' e => ?_) fun _ _ e => e.elim
  obtain ⟨m', news', F2, N2, hP, e1, e2, e3⟩ := e
  refine leaveK_ F2 N2 fun F3 N3 => ?_
  obtain ⟨hp, ge, dr, tk, os⟩ := s'
  dsimp only at e1 e2 e3 F3 N3
  subst e1; subst e2; subst e3
  have := hQ _ _ _ tk hP F3 N3
  cases fl <;> exact this
end
end
section
theorem off_NzG2 : True := by
  w_top off
  trivial
open PySem PySem.W PySem.Calls PyProof.Rows
/-- a text that can be written as octets, and how long it is at most -/
def GoodS (n : Nat) (x : Str) : Prop := (∀ c ∈ x.cps, 0 < c ∧ c < 256) ∧ x.length ≤ n
theorem GoodS.le {n m : Nat} {x : Str} (h : GoodS n x) (k : n ≤ m) : GoodS m x := ⟨h.1, Nat.le_trans h.2 k⟩
theorem GoodS.append {n m : Nat} {x y : Str} (h : GoodS n x) (k : GoodS m y) : GoodS (n + m) (x ++ y) := by
  refine ⟨fun c hc => ?_, ?_⟩
  · have hc' : c ∈ x.cps ++ y.cps := hc
    exact (Array.mem_append.mp hc').elim (h.1 c) (k.1 c)
  · show (x.cps ++ y.cps).size ≤ _
    rw [Array.size_append]
    exact Nat.add_le_add h.2 k.2
theorem good_join {n : Nat} {e : Str} (he : e = Str.empty) : ∀ {ys : List Str}, (∀ y ∈ ys, GoodS n y) → GoodS (n * ys.length) (Str.join e ys)
  | [], _ => ⟨fun c hc => by simp [Str.join, Str.empty] at hc, Nat.zero_le _⟩
  | [x], h => by
    have := h x (.head _)
    simpa [Str.join] using this
  | x :: y :: r, h => by
    have h1 := h x (.head _)
    have h2 := good_join he (ys := y :: r) fun z hz => h z (.tail _ hz)
    have h0 : GoodS 0 e := by subst he; exact ⟨fun c hc => by simp [Str.empty] at hc, Nat.le_refl _⟩
    have h3 := (h1.append h0).append h2
    have e2 : n + 0 + n * (y :: r).length = n * (x :: y :: r).length := by rw [List.length_cons (a := x), Nat.mul_add]; omega
    rw [e2] at h3
    exact h3
theorem good_sum {n : Nat} : ∀ {ys : List Str}, (∀ y ∈ ys, GoodS n y) → (ys.map (·.length)).sum ≤ n * ys.length
  | [], _ => Nat.le_refl _
  | x :: r, h => by
    have h1 := (h x (.head _)).2
    have h2 := good_sum (ys := r) fun z hz => h z (.tail _ hz)
    simp only [List.map_cons, List.sum_cons, List.length_cons, Nat.mul_add, Nat.mul_one]
    omega
theorem strsAre_snoc {vs : List Value} {ss : List Str} {x : Str} {t : Tok} (h : StrsAre vs ss) : StrsAre (vs ++ [.str x t]) (ss ++ [x]) := by
  induction h with
  | nil => exact .cons x t .nil
  | cons y t r ih => exact .cons y t ih
theorem IsPool.le {o : Obj} {k n : Nat} (h : IsPool o k) (hn : k ≤ n) : IsPool o n := let ⟨a, b, ta, tb, c, e, h0, h1, h2⟩ := h; ⟨a, b, ta, tb, c, e, h0, h1, by omega⟩
theorem good_lits {n : Nat} {vs : List Value} : ∀ {ls : List Str}, StrsAre vs ls → (ls.all fun x => x.cps.all (fun c => decide (0 < c) && decide (c < 256)) && decide (x.length ≤ n)) = true → ∀ v ∈ vs, ∃ x t, v = .str x t ∧ GoodS n x := by
  intro ls h
  induction h with
  | nil => exact fun _ v hv => nomatch hv
  | cons y t r ih =>
    intro hl v hv
    rw [List.all_cons, Bool.and_eq_true] at hl
    rcases List.mem_cons.mp hv with rfl | hv
    · obtain ⟨h1, h2⟩ := Bool.and_eq_true_iff.mp hl.1
      exact ⟨y, t, rfl, fun c hc => by simpa using Array.all_eq_true_iff_forall_mem.mp h1 c hc, of_decide_eq_true h2⟩
    · exact ih hl.2 v hv
/-- a comprehension's source, held -/
def SrcMark (prog : Program) (w : World) (A : Around) (h₀ : Heap) (L : Addr) (m : Str → Option Value) (env : Env) (elt : Expr) (x : Str) (scope : Scope) (cl : List (Str × Addr)) (Fin : Shared → List Value → List (Addr × Obj) → Prop) (xv : Value) (s₁ : Shared) : Prop :=
  LCg.CompSrc prog w A h₀ L m env elt x scope cl Fin xv s₁
section
variable {prog : Program} {w : World} {A : Around} {E : Value → Shared → Prop} {s : Shared} {h₀ : Heap} {L : Addr} {m : Str → Option Value} {env : Env}
theorem ListComp_M {elt iter : Expr} {x : Str} {px : Pos} {scope : Scope} {cl : List (Str × Addr)} {pos : Pos} {Q : Value → Shared → Prop} (F₀ : Fr h₀ L s.heap m)
    (hclos : closureFor scope env = pure cl) (hcell : ∀ y ∈ scope.names, y.2 ≠ .cell) (hkind : scope.kind = .function)
    (hnames : ∀ y ∈ scope.names, y.2 = .local → scope.names.lookup y.1 = some .local) (hx : scope.names.lookup x = some .local)
    (h : wpAny (model prog w) A (eval iter env) (SrcMark prog w A h₀ L m env elt x scope cl (fun s₂ => LCg.FinE h₀ L m s₂ Q)) E s)
    (hs : ∀ x, foldedSetIterable iter env x = pure x := by intro _; rfl) :
    wpAny (model prog w) A (eval (.ListComp elt [⟨.Name x px, iter, [], 0⟩] scope pos) env) Q E s := LCg.ListComp_U F₀ hclos hcell hkind hnames hx h hs
theorem comp_texts {elt : Expr} {x : Str} {scope : Scope} {cl : List (Str × Addr)} {Fin : List Value → List (Addr × Obj) → Prop} {n k1 b : Nat} {a : Int} {ld : Obj → Led} {o0 : Obj} (hp0 : IsPool o0 k1)
    (turn : ∀ i o' I oI C oC D m₂ ys h tk (E' : Value → Shared → Prop), i < n → IsPool o' (k1 + i) → LCg.NsObj oC m₂ → Fr h₀ L h m → News h₀ L h ((I, oI) :: (C, oC) :: (D, LCg.lst ys) :: ld o') → LCg.Off3 I C D (ld o') → ((@Ne Nat I C) ∧ (@Ne Nat I D) ∧ (@Ne Nat C D)) →
      wpAny (model prog w) A (eval elt (compEnvC scope cl C env)) (LCg.CompEnd h₀ L m { s with heap := h, toks := tk } I oI C oC D (LCg.lst ys) (fun _ => True) (fun y news' => ∃ o'', IsPool o'' (k1 + i + 1) ∧ news' = ld o'' ∧ ∃ x t, y = .str x t ∧ GoodS b x)) E' { s with heap := h, toks := tk })
    (fin : ∀ ys ss o', StrsAre ys ss → ss.length = n → (∀ y ∈ ss, GoodS b y) → IsPool o' (k1 + n) → Fin ys (ld o')) :
    LCg.CompRest prog w A h₀ L m env elt x scope cl s (fun _ => True) (fun i v => ∃ t, v = .int (a + (i : Int)) t) Fin n 0 [] (ld o0) := by
  have key : ∀ (j i : Nat) (ys : List Value) (ss : List Str) (o' : Obj), i + j = n → StrsAre ys ss → ss.length = i → (∀ y ∈ ss, GoodS b y) → IsPool o' (k1 + i) →
      LCg.CompRest prog w A h₀ L m env elt x scope cl s (fun _ => True) (fun i v => ∃ t, v = .int (a + (i : Int)) t) Fin j i ys (ld o') := by
    intro j
    induction j with
    | zero =>
      intro i ys ss o' hi hy hl hg hp
      obtain rfl : i = n := by omega
      exact LCg.CompRest.zero (fin ys ss o' hy hl hg hp)
    | succ j ih =>
      intro i ys ss o' hi hy hl hg hp
      refine LCg.CompRest.succ ?_
      intro v I oI C oC D m₂ h tk E' hv hC hx F N off ne
      refine wpAny_mono (turn i o' I oI C oC D m₂ ys h tk E' (by omega) hp hC F N off ne) (fun y s₂ hq => ?_) fun _ _ e => e
      obtain ⟨h', tk', nw, e, F', N', off', hS, o'', hp', hn, xx, t', hy', hgx⟩ := hq
      rw [hn] at N' off'
      refine ⟨h', tk', ld o'', e, F', N', off', hS, ?_⟩
      rw [hy']
      exact ih (i + 1) _ (ss ++ [xx]) o'' (by omega) (strsAre_snoc hy) (by simp [hl]) (fun z hz => by
        rcases List.mem_append.mp hz with hz | hz
        · exact hg z hz
        · rw [List.mem_singleton.mp hz]; exact hgx) hp'
  exact key n 0 [] [] o0 (by omega) .nil rfl (fun _ h => nomatch h) hp0
theorem piece_get {l : Addr} {vs : Array Value} {k : Int} {t : Tok} {Q : Value → Shared → Prop} (hl : s.heap.IsList l vs) (h0 : 0 ≤ k) (h1 : k < vs.size) (h2 : k < 2 ^ 63) (h : ∀ v ∈ vs, Q v s) : wpAny (model prog w) A (getItem (.ref l) (.int k t)) Q E s := by
  have hi : k.toNat < vs.size := by omega
  exact wpAny_getItem_list hl h0 h2 (Array.getElem?_eq_getElem hi) (h _ (Array.getElem_mem hi))
theorem piece_tail {value slice : Expr} {l : Addr} {vs : Array Value} {k : Int} {t : Tok} {Q : Value → Shared → Prop} (hl : s.heap.IsList l vs) (h0 : 0 ≤ k) (h1 : k < vs.size) (h2 : k < 2 ^ 63) (h : ∀ v ∈ vs, Q v s)
    (hs : subscripted slice false (.ref l) (.int k t) = operate [.ref l, .int k t] (getItem (.ref l) (.int k t))) : wpAny (model prog w) A (subscriptTail value slice (.ref l) (.int k t)) Q E s :=
  tail_any hl.typeIs slot_list_getitem.lookup (piece_get hl h0 h1 h2 h) hs
theorem good_lit {n : Nat} {x : Str} (h : (x.cps.all (fun c => decide (0 < c) && decide (c < 256)) && decide (x.length ≤ n)) = true) : GoodS n x := by
  obtain ⟨h1, h2⟩ := Bool.and_eq_true_iff.mp h
  refine ⟨fun c hc => ?_, of_decide_eq_true h2⟩
  have := Array.all_eq_true_iff_forall_mem.mp h1 c hc
  simpa using this
theorem join_good {D : Addr} {vs : List Value} {ss : List Str} {e : Str} {t : Tok} {Q : Value → Shared → Prop} (hl : s.heap.IsList D vs.toArray) (hi : StrsAre vs ss) (hg : ∀ y ∈ ss, GoodS 15 y) (hn : ss.length ≤ 12) (he : e = Str.empty)
    (h : ∀ x t' k, GoodS 180 x → Q (.str x t') { s with toks := k }) : wpAny (model prog w) A (call (.builtin "str.join") [.str e t, .ref D]) Q E s := by
  have he0 : e.length = 0 := by subst he; rfl
  have hs := good_sum hg
  refine join_list hl hi (by rw [he0]; omega) fun t' k => h _ t' k ?_
  show GoodS 180 (Builtin.Str.glued e ss)
  rw [StrLaws.glued_eq_join]
  exact (good_join he hg).le (by omega)
theorem add_good {n m : Nat} {x y : Str} {t u : Tok} {Q : Value → Shared → Prop} (hx : GoodS n x) (hy : GoodS m y) (hnm : n + m ≤ 2000) (h : ∀ z t' k, GoodS (n + m) z → Q (.str z t') { s with toks := k }) : wpAny (model prog w) A (binaryOp .Add (.str x t) (.str y u)) Q E s :=
  PyProof.Rows.add_str (fun t' k => h _ t' k (hx.append hy)) (by rw [PySem.sizeLine_eq]; have := hx.2; have := hy.2; omega)
end
end
section
theorem off_NzZ0 : True := by
  w_top off
  trivial
open PySem PySem.W PySem.Calls PyProof.Rows
section
variable {prog : Program} {w : World} {A : Around} {R : Result → Shared → Prop} {s : Shared} {name qual : Str} {params : Arguments} {body : List Stmt} {scope : Scope} {fd : FuncData} {cd : Value} {a : Addr} {o : Obj} {args : Args} {binds : List (Str × Value)}
/-- a call of a def, for calm stacks, whatever stands below -/
theorem codeC_enter (hroom : A.depth < recursionLimit) (ho : s.heap.get? a = some o) (hdata : o.data = .func fd) (hlim : s.heap.NoLimit) (hcd : s.heap.CodeRec cd name)
    (hfd : fd = { docDef name params body scope fd.pyModule cd fd.doc with defaults := fd.defaults, kwdefaults := fd.kwdefaults })
    (hbind : bindArgs fd args = pure binds) (hloc : ∀ x ∈ binds, scope.names.lookup x.1 = some .local)
    (h : ∀ h₁, Fr s.heap s.heap.objs.size h₁ (fun x => binds.reverse.lookup x) →
      wpC (model prog w) (A.deeper (envOf name scope s.heap.objs.size a cd)) (execs body (envOf name scope s.heap.objs.size a cd)) (fun f s' => R (.ok (.ret (match f with | .ret v => v | _ => .none))) s') (fun _ _ => False) { s with heap := h₁, toks := s.toks + binds.length })
    (hco : scope.isCoroutine = false) (hgen : scope.isGenerator = false) (hk : scope.kind = .function) (hcell : ∀ x ∈ scope.names, x.2 ≠ .cell) :
    codeC (model prog w) A (.call (.ref a) args) R s := by
  obtain ⟨o1, o2, o3, o4⟩ := o
  dsimp only at hdata
  subst hdata
  refine codeC_of_tree ?_
  show wpC _ A.in1 (callAny (.ref a) args) _ _ s
  refine wpC_any ?_
  simp only [callAny]
  refine wpAny_bind (wpAny_load ho ?_)
  obtain ⟨c, o2, vs2, tq, hc, hoc, hdc, hq⟩ := hcd
  subst hc
  rw [hfd] at hbind ⊢
  simp only [callFunction, docDef, hco, hgen]
  refine wpAny_bind (m := field (.ref c) 1) (wpAny_field hoc hdc hq (wpAny_bind (wpAny_pure ?_)))
  refine wpAny_bind ?_
  simp only [docDef] at hbind
  rw [hbind]
  refine wpAny_pure (wpAny_bind (wpAny_newFunctionEnv hcell hloc (fun h₁ hns hsb => ?_) hk))
  have hk₁ : ∀ b o, s.heap.get? b = some o → h₁.get? b = some o := fun b o e => hsb.extBut b o (Nat.ne_of_lt (Heap.lt_size e)) (Heap.get?_push_of_some _ e)
  refine wpAny_bind (wpAny_enterFrame (hlim.fresh _ hsb) hroom (wpAny_pure ⟨rfl, rfl, ?_⟩))
  refine codeC_func rfl ?_
  exact h h₁ ⟨hns, hk₁, Nat.le_refl _⟩
end
section
variable {prog : Program} {w : World} {A : Around} {E : Value → Shared → Prop} {s : Shared} {name : Str} {scope : Scope} {L a : Addr} {cd : Value} {g : Heap} {m₀ : Str → Option Value} {pos : Pos} {body : List Stmt} {Q : Flow → Shared → Prop}
theorem forC_law {r p : Addr} {k : Nat} {led₀ : Led} {o0 : Obj} {t u v : Tok} (n : Nat) (hr : IsRange s.heap r 0 n 1 t u v) (hn : n ≤ 4) (hh : A.handled = none) (F : Fr g L s.heap m₀) (N : News g L s.heap led₀) (hs : ∀ q ∈ [(p, o0)], q ∈ led₀) (hp : IsPool o0 k)
    (turn : ∀ i tk o' I oi s', i < n → IsPool o' (k + 14 * i) → p ≠ I → Fr g L s'.heap (fun y => if y = Str.ofString "turn" then some (.int (i : Int) tk) else m₀ y) → News g L s'.heap [(I, oi), (p, o')] → Same s s' →
      wpC (model prog w) A (execs body (envOf name scope L a cd)) (TurnQ g L (Str.ofString "turn") (fun _ : Obj => m₀) (fun c => [(p, c)]) (fun c => IsPool c (k + 14 * (i + 1))) I oi s Q) (fun _ _ => False) s')
    (done : ∀ o' v s', IsPool o' (k + 14 * n) → Fr g L s'.heap (fun y => if y = Str.ofString "turn" then v else m₀ y) → News g L s'.heap [(p, o')] → Same s s' → Q .next s')
    (hk : scope.kind = .function := by rfl) (hl : (envOf name scope L a cd).kindOf (Str.ofString "turn") = some .local := by rfl) :
    IterC (model prog w) A (envOf name scope L a cd) (.Name (Str.ofString "turn") pos) body Q E (.ref r) s :=
  forC_range (σ := Obj) (fun _ => m₀) (fun c => [(p, c)]) (fun i c => IsPool c (k + 14 * i)) o0 hr (by omega) hh F N hs hp (fun y _ => rfl)
    (fun i tk c I oi s' hi hP off F1 N1 S => turn i tk c I oi s' hi hP (off _ (.head _)) F1 N1 S) (fun v c s' hP F1 N1 S => done c v s' hP F1 N1 S) hk hl
theorem law_turn {I p : Addr} {k : Nat} {oi o' : Obj} {s₀ s' : Shared} {v : Value} (hP : IsPool o' k) (F : Fr g L s'.heap (fun y => if y = Str.ofString "turn" then some v else m₀ y)) (N : News g L s'.heap [(I, oi), (p, o')]) (o1 : p ≠ I) (S : Same s₀ s') :
    TurnQ g L (Str.ofString "turn") (fun _ : Obj => m₀) (fun c => [(p, c)]) (fun c => IsPool c k) I oi s₀ Q .next s' :=
  turnQ_of o' F (fun y hy => by simp only [if_neg hy]) N (fun q hq => by rw [List.mem_singleton.mp hq]; exact o1) hP S
end
/-- where no frames stand outside, the ground is the old one -/
theorem CtrD.use0 {w : World} {f : Addr} {vs : List Value} {d u : Nat} {news : Led} {Post : Value → Led → Prop} (C : CtrD w f vs d u news Post) {mean : ExcName → Option Value} {mg mb : Str → Option Value} {dp un : Nat} {gd : Option (List Code)} {A₀ : Around} {env : Env} {h₀ : Heap} {L : Addr} {m : Str → Option Value} {s : Shared} {Q E : Value → Shared → Prop} {led : Led}
    (B : Below A₀ h₀ [] h₀) (F : Fr h₀ L s.heap m) (X : (NzH.hd.heap_39 w.params).In h₀) (N : News h₀ L s.heap led) (T : TopN mean mg mb h₀)
    (hs : ∀ p ∈ news, p ∈ led) (hf : env.frame = some L) (hk : env.scope.kind = .function) (hd : dp + d < recursionLimit) (hu : un + u < cLine)
    (h : ∀ r news' h' tk, Post r news' → Fr h₀ L h' m → News h₀ L h' news' → Q r { s with heap := h', toks := tk }) :
    wpC (model PySem.Challenge.rw_nz0212_01.row.prog w) (arK dp un gd env []) (call (.ref f) vs) Q E s :=
  CtrD.use C B F X N T X T ktsDicts_nil hs hf hk hd hu fun r news' h₁ h' tk hP Tn F1 N1 => by
    have keep : ∀ b o, h₀.get? b = some o → h₁.get? b = some o := fun b o e => Tn.turn.other b o e (fun hm => nomatch hm)
    refine h r news' h' tk hP ⟨F1.ns, fun b o e => F1.keep b o (keep b o e), F.above⟩ fun p hp => ⟨(N1 p hp).1, (N1 p hp).2.1, ?_⟩
    cases q : h₀.get? p.1 with
    | none => rfl
    | some o => have := (N1 p hp).2.2; rw [keep _ _ q] at this; cases this
end
section
local macro_rules | `(tactic| walk_at $s:str) => `(tactic| k_extra $(Lean.Syntax.mkStrLit ("65 " ++ s.getString)))
theorem off_NzP : True := by
  w_top off
  trivial
open PySem PySem.W PySem.Calls PyProof.Rows
theorem kw0_NzP : True := by
  k_with "65 nz pq" => k_extra "L0"
  k_with "65 nz pn" => k_extra "L1"
  k_with "65 nz pi" => k_extra "L2"
  k_with "65 nz pr" => k_extra "L3"
  k_with "65 nz oo" => k_extra "L4"
  k_with "65 nz zz" => k_extra "L5"
  k_with "65 nz om" => k_extra "L6"
  k_with "65 nz enter" => k_extra "L7"
  k_with "65 nz intro" => k_extra "L8"
  k_with "65 nz go" => k_extra "L9"
  k_with "65 nz end" => k_extra "L10"
  k_with "65 subscriptTail" => k_extra "L11"
  k_with "65 setItem ref int" => k_extra "L12"
  k_with "65 nz side" => k_extra "L13"
  k_with "65 nz pick" => k_extra "L14"
  k_with "65 nz sub" => k_extra "L15"
  k_with "65 nz news" => k_extra "L16"
  k_with "65 nz same" => k_extra "L17"
  k_with "65 nz out" => k_extra "L18"
  k_with "65 nz len" => k_extra "L19"
  k_with "65 getMethod str" => k_extra "L30"
  k_with "65 call builtin:str.encode" => k_extra "L31"
  k_with "65 call type:bytes" => k_extra "L32"
  k_with "65 call type:bytes" => k_extra "L33"
  k_with "65 call type:bytes" => k_extra "L34"
  k_with "65 call builtin:isinstance" => k_extra "L35"
  k_with "65 nz size" => k_extra "L36"
  k_with "65 nz enterC" => k_extra "L40"
  k_with "65 nz introC" => k_extra "L41"
  k_with "65 nz goC" => k_extra "L42"
  k_with "65 nz steps" => k_extra "L43"
  k_with "65 last wpC" => k_extra "L44"
  k_with "65 wpC" => k_extra "L45"
  k_with "65 wpC" => k_extra "L46"
  k_with "65 wpC" => k_extra "L47"
  k_with "65 wpC" => k_extra "L48"
  k_with "65 wpC" => k_extra "L49"
  k_with "65 wpC" => k_extra "L50"
  k_with "65 wpC" => k_extra "L51"
  k_with "65 wpC" => k_extra "L52"
  k_with "65 wpC" => k_extra "L53"
  k_with "65 wpC" => k_extra "L54"
  k_with "65 wpC" => k_extra "L55"
  k_with "65 wpC" => k_extra "L56"
  k_with "65 wpC" => k_extra "L57"
  k_with "65 wpC" => k_extra "L58"
  k_with "65 wpC" => k_extra "L59"
  k_with "65 wpC" => k_extra "L60"
  k_with "65 wpC" => k_extra "L61"
  k_with "65 getMethod ref" => k_extra "L62"
  k_with "65 wpC" => k_extra "L63"
  k_with "65 nz turn" => k_extra "L64"
  k_with "65 call builtin:len" => k_extra "L65"
  k_with "65 wpC" => k_extra "L68"
  k_with "65 wpC" => k_extra "L69"
  k_with "65 nz B" => k_extra "L116"
  k_with "65 binaryOp Add ref ref" => k_extra "L117"
  trivial
namespace LpH
def SS (w : World) (b : Array UInt8) (ks : List Int) (t : Tok) (news : Led) : Prop := KBw.bInts b = ks → ks.length ≤ 1000 → CtrC w 224 [.bytes b t] 1 24 news (fun r l => ∃ fa vs n, r = .ref fa ∧ BytesAre vs (names ks) ∧ l = (fa, listOf vs.toArray n) :: news ∧ ∀ p ∈ news, p.1 < fa)
noncomputable def kk : World × (Array UInt8) × (List Int) × Tok × Led := Classical.epsilon fun y => ¬ SS y.1 y.2.1 y.2.2.1 y.2.2.2.1 y.2.2.2.2
@[irreducible] noncomputable def w : World := kk.1
@[irreducible] noncomputable def b : Array UInt8 := kk.2.1
@[irreducible] noncomputable def ks : List Int := kk.2.2.1
@[irreducible] noncomputable def t : Tok := kk.2.2.2.1
@[irreducible] noncomputable def news : Led := kk.2.2.2.2
noncomputable def yy : Fm := Classical.epsilon fun y => ¬ PremC w 224 [.bytes b t] 1 24 news (fun r l => ∃ fa vs n, r = .ref fa ∧ BytesAre vs (names ks) ∧ l = (fa, listOf vs.toArray n) :: news ∧ ∀ p ∈ news, p.1 < fa) y
end LpH
open LpH in
theorem LpH.main (hb : KBw.bInts b = ks) (hz : ks.length ≤ 1000) : PremC w 224 [.bytes b t] 1 24 news (fun r l => ∃ fa vs n, r = .ref fa ∧ BytesAre vs (names ks) ∧ l = (fa, listOf vs.toArray n) :: news ∧ ∀ p ∈ news, p.1 < fa) yy := by
  k_dflt (refine' premC_of ?k6 ?hb ?_; (case k6 => (with_unfolding_all rfl)); (case hb => (with_unfolding_all rfl)); k_whole)
  k_fill
  intro B F X N T hd hu
  (try dsimp only)
  k_steps
  (rename (∀ p ∈ news, p.1 < _) => lt0)
  (rename IsRange _ _ _ _ _ _ _ _ => hr)
  k_dflt (refine' forC_range (m₀ := _) (n := ks.length + 1) (σ := List Value × Nat × Addr × Array UInt8 × Tok × Option Value) (lpBase b t) (lpLd news) (lpP news ks) ([], 0, _, #[], _, none) hr (by omega) rfl ?F ?N ?sb ?h0 ?hm ?turn ?done; (case F => k_asm); (case N => k_asm))
  case hm => unfold lpBase; walk_at "nz B"
  case sb => exact sub_tail (sub_rfl)
  case h0 => exact ⟨.nil, rfl, lt0⟩
  case turn =>
    intro i tk c I o s' hi hP off F1 N1 hS
    obtain ⟨fv, fn, fa, hbs, th, sg⟩ := c
    obtain ⟨p1, p2, p3⟩ := hP
    dsimp only at p1 p2 p3 off F1 N1
    have o1 : fa ≠ I := off _ (.head _)
    have o2 : ∀ p ∈ news, p.1 ≠ I := fun p hp => off p (.tail _ hp)
    have hfl : fv.length ≤ 1001 := by have := (pst_small ks i).1; rw [p1.length]; omega
    have hpl : ((pst ks i).2.take 14).length ≤ 14 := by simp; omega
    clear off
    k_steps
    all_goals ((with_reducible rename News _ _ _ _ => N8); (with_reducible rename Fr _ _ _ _ => F8); (rename KBw.bInts (KBy.picked _ _ _) = _ => kp); rw [sign_ints (by omega)] at kp; dsimp only [lpLd, lpBase] at N8 F8; simp only [eq_ints kp (b := #[47]) (ls := [47]) rfl, eq_ints kp (b := #[]) (ls := []) rfl, eq_ints p2 (b := #[]) (ls := []) rfl, bne, Bool.not_eq_true', Bool.not_eq_false', decide_eq_true_eq, decide_eq_false_iff_not] at *)
    · have hx := sgn_end (ks := ks) (i := i) (by omega) (.inl (by assumption))
      have e := pst_push hx (by assumption)
      exact lp_turn F8 rfl rfl (fun y h1 h2 h3 h4 => by simp only [if_neg h1, if_neg h2, if_neg h3, if_neg h4]) N8 (sub_cons (by k_mem) (sub_cons (by k_mem) (by walk_at "nz sub"))) (by rw [e]; exact p1.snoc p2) (by rw [e]; rfl) (fun p hp => allLt_lt (by (rename (_ < _ ∧ _ < _ ∧ _ < _ ∧ AllLt _ _) => l8); exact l8.2.2.2) p hp) (by (rename (_ < _ ∧ _ < _ ∧ _ < _ ∧ AllLt _ _) => l8); exact Nat.ne_of_gt l8.2.1) o2 (Same.trans hS ⟨rfl, rfl, rfl⟩)
    · have hx := sgn_end (ks := ks) (i := i) (by omega) (.inl (by assumption))
      have e := pst_stay hx (by assumption)
      exact lp_turn F8 rfl rfl (fun y h1 h2 h3 h4 => by simp only [if_neg h1, if_neg h2, if_neg h3, if_neg h4]) N8 (sub_cons (by k_mem) (sub_cons (by k_mem) (by walk_at "nz sub"))) (by rw [e]; exact p1) (by rw [e, ‹List.take 14 (pst ks i).2 = []›]; rfl) p3 o1 o2 (Same.trans hS ⟨rfl, rfl, rfl⟩)
    · have hx := sgn_end (ks := ks) (i := i) (by omega) (.inr (by assumption))
      have e := pst_push hx (by assumption)
      exact lp_turn F8 rfl rfl (fun y h1 h2 h3 h4 => by simp only [if_neg h1, if_neg h2, if_neg h3, if_neg h4]) N8 (sub_cons (by k_mem) (sub_cons (by k_mem) (by walk_at "nz sub"))) (by rw [e]; exact p1.snoc p2) (by rw [e]; rfl) (fun p hp => allLt_lt (by (rename (_ < _ ∧ _ < _ ∧ _ < _ ∧ AllLt _ _) => l8); exact l8.2.2.2) p hp) (by (rename (_ < _ ∧ _ < _ ∧ _ < _ ∧ AllLt _ _) => l8); exact Nat.ne_of_gt l8.2.1) o2 (Same.trans hS ⟨rfl, rfl, rfl⟩)
    · have hx := sgn_end (ks := ks) (i := i) (by omega) (.inr (by assumption))
      have e := pst_stay hx (by assumption)
      exact lp_turn F8 rfl rfl (fun y h1 h2 h3 h4 => by simp only [if_neg h1, if_neg h2, if_neg h3, if_neg h4]) N8 (sub_cons (by k_mem) (sub_cons (by k_mem) (by walk_at "nz sub"))) (by rw [e]; exact p1) (by rw [e, ‹List.take 14 (pst ks i).2 = []›]; rfl) p3 o1 o2 (Same.trans hS ⟨rfl, rfl, rfl⟩)
    · obtain ⟨k, ek, nk, hx⟩ := sgn_in (ks := ks) (i := i) (by omega) (by assumption) (by assumption)
      have e := pst_more hx nk
      exact lp_turn F8 rfl rfl (fun y h1 h2 h3 h4 => by simp only [if_neg h1, if_neg h2, if_neg h3, if_neg h4]) N8 (sub_cons (by k_mem) (sub_cons (by k_mem) (by walk_at "nz sub"))) (by rw [e]; exact p1) (by rw [e]; (rename KBw.bInts (_ ++ _) = _ => q7); rw [take14_app (by simp only [List.length_take] at *; omega), ← ek]; exact q7.trans (by rw [sign_ints (by omega)])) p3 o1 o2 (Same.trans hS ⟨rfl, rfl, rfl⟩)
    · obtain ⟨k, ek, nk, hx⟩ := sgn_in (ks := ks) (i := i) (by omega) (by assumption) (by assumption)
      have e := pst_more hx nk
      exact lp_turn F8 rfl rfl (fun y h1 h2 h3 h4 => by simp only [if_neg h1, if_neg h2, if_neg h3, if_neg h4]) N8 (sub_cons (by k_mem) (sub_cons (by k_mem) (by walk_at "nz sub"))) (by rw [e]; exact p1) (by rw [e]; rw [take14_full (by simp only [List.length_take] at *; omega)]; exact p2) p3 o1 o2 (Same.trans hS ⟨rfl, rfl, rfl⟩)
  case done =>
    intro v' c s' hP F1 N1 hS
    obtain ⟨fv, fn, fa, hbs, th, sg⟩ := c
    obtain ⟨p1, p2, p3⟩ := hP
    dsimp only at p1 p2 p3 F1 N1
    k_steps
    walk_at "nz out"
    case P => exact ⟨fa, fv, fn, rfl, p1, rfl, p3⟩
    case N => walk_at "nz news"
open LpH in
theorem LpH.fin (hb : KBw.bInts b = ks) (hz : ks.length ≤ 1000) : CtrC w 224 [.bytes b t] 1 24 news (fun r l => ∃ fa vs n, r = .ref fa ∧ BytesAre vs (names ks) ∧ l = (fa, listOf vs.toArray n) :: news ∧ ∀ p ∈ news, p.1 < fa) := by
  have h : ∀ y, PremC w 224 [.bytes b t] 1 24 news (fun r l => ∃ fa vs n, r = .ref fa ∧ BytesAre vs (names ks) ∧ l = (fa, listOf vs.toArray n) :: news ∧ ∀ p ∈ news, p.1 < fa) y := henk (LpH.main hb hz)
  walk_at "nz enterC"
  intro mean mg mb dp un gd env outer base g L s B F X N T hd hu
  (with_unfolding_all refine' h ⟨mean, mg, mb, dp, un, gd, env, outer, base, g, L, s⟩ _ _ _ _ _ _ _ _ _ _ _ _ _ _ _ ?k6 ?zB ?zF ?zX ?zN ?zT ?zhd ?zhu)
  (case k6 => with_unfolding_all rfl)
  (case zB => with_unfolding_all exact B)
  (case zF => with_unfolding_all exact F)
  (case zX => with_unfolding_all exact X)
  (case zN => with_unfolding_all exact N)
  (case zT => with_unfolding_all exact T)
  (case zhd => with_unfolding_all exact hd)
  (case zhu => with_unfolding_all exact hu)
theorem c_law_parts (w : World) (b : Array UInt8) (ks : List Int) (t : Tok) (news : Led) (hb : KBw.bInts b = ks) (hz : ks.length ≤ 1000) : CtrC w 224 [.bytes b t] 1 24 news (fun r l => ∃ fa vs n, r = .ref fa ∧ BytesAre vs (names ks) ∧ l = (fa, listOf vs.toArray n) :: news ∧ ∀ p ∈ news, p.1 < fa) := by
  refine henk (P := fun y => LpH.SS y.1 y.2.1 y.2.2.1 y.2.2.2.1 y.2.2.2.2) ?_ (w, b, ks, t, news) hb hz
  intro hb hz
  with_unfolding_all exact LpH.fin hb hz
end
section
local macro_rules | `(tactic| walk_at $s:str) => `(tactic| k_extra $(Lean.Syntax.mkStrLit ("66 " ++ s.getString)))
local macro_rules | `(tactic| walk_at "nz pad") => `(tactic| skip)
theorem off_NzG1 : True := by
  w_top off
  trivial
open PySem PySem.W PySem.Calls PyProof.Rows
theorem kw0_NzG1 : True := by
  k_with "66 nz pq" => k_extra "L0"
  k_with "66 nz pn" => k_extra "L1"
  k_with "66 nz pi" => k_extra "L2"
  k_with "66 nz pr" => k_extra "L3"
  k_with "66 nz oo" => k_extra "L4"
  k_with "66 nz zz" => k_extra "L5"
  k_with "66 nz om" => k_extra "L6"
  k_with "66 nz enter" => k_extra "L7"
  k_with "66 nz intro" => k_extra "L8"
  k_with "66 nz go" => k_extra "L9"
  k_with "66 nz end" => k_extra "L10"
  k_with "66 subscriptTail" => k_extra "L11"
  k_with "66 setItem ref int" => k_extra "L12"
  k_with "66 nz side" => k_extra "L13"
  k_with "66 nz pick" => k_extra "L14"
  k_with "66 nz sub" => k_extra "L15"
  k_with "66 nz news" => k_extra "L16"
  k_with "66 nz same" => k_extra "L17"
  k_with "66 nz out" => k_extra "L18"
  k_with "66 nz len" => k_extra "L19"
  k_with "66 getMethod str" => k_extra "L118"
  k_with "66 call builtin:str.encode" => k_extra "L31"
  k_with "66 call type:bytes" => k_extra "L32"
  k_with "66 call type:bytes" => k_extra "L33"
  k_with "66 call type:bytes" => k_extra "L34"
  k_with "66 call builtin:isinstance" => k_extra "L35"
  k_with "66 nz size" => k_extra "L36"
  trivial
theorem good_slice {d : Int} (h0 : 0 ≤ d) (h1 : d < 4) : GoodS 16 (Txt.slice (Str.ofString "fourteen or more") none (some (13 + d))) := by
  have hd : d = 0 ∨ d = 1 ∨ d = 2 ∨ d = 3 := by omega
  rcases hd with rfl | rfl | rfl | rfl <;> exact good_lit (by decide +kernel)
theorem kw1_NzG1 : True := by
  k_with "66 eval ListComp" => k_extra "L119"
  k_with "66 subscriptTail" => k_extra "L120"
  k_with "66 call builtin:str.join" => k_extra "L121"
  k_with "66 binaryOp Add str str" => k_extra "L122"
  k_with "66 getMethod str" => k_extra "L118"
  k_with "66 call builtin:str.encode" => k_extra "L31"
  k_with "66 call type:bytes" => k_extra "L32"
  k_with "66 call type:bytes" => k_extra "L33"
  k_with "66 call type:bytes" => k_extra "L34"
  k_with "66 call builtin:isinstance" => k_extra "L35"
  k_with "66 nz size" => k_extra "L36"
  k_with "66 exec Raise some none" => k_extra "L76"
  k_with "66 call ref" => k_extra "L107"
  k_with "66 nz raise" => k_extra "L78"
  k_with "66 nz exc" => k_extra "L79"
  k_with "66 nz exc" => k_extra "L80"
  k_with "66 nz outX" => k_extra "L81"
  k_with "66 nz steps" => k_extra "L82"
  k_with "66 nz den" => k_extra "L83"
  k_with "66 call ref" => k_extra "L123"
  trivial
theorem pt_room {k i : Nat} {d m : Int} (h : i < (d - 0).toNat) (h1 : d < m) (h2 : m ≤ 12) (h3 : k < 900) : k + 1 + i < 1000 := by omega
theorem kw2_NzG1 : True := by
  k_with "66 nz om" => k_extra "L124"
  trivial
namespace PtH
def SS (w : World) (p : Addr) (o : Obj) (k : Nat) (many : Int) (tm : Tok) (rest : Led) : Prop := (∀ q ∈ rest, q.1 ≠ p) → IsPool o k → k < 900 → 0 < many → many ≤ 12 → Ctr w 217 [.ref p, .int many tm] 4 100 ((p, o) :: rest) (fun r l => ∃ x t o', r = .str x t ∧ GoodS 200 x ∧ IsPool o' (k + 20) ∧ l = (p, o') :: rest) NoE
noncomputable def kk : World × Addr × Obj × Nat × Int × Tok × Led := Classical.epsilon fun y => ¬ SS y.1 y.2.1 y.2.2.1 y.2.2.2.1 y.2.2.2.2.1 y.2.2.2.2.2.1 y.2.2.2.2.2.2
@[irreducible] noncomputable def w : World := kk.1
@[irreducible] noncomputable def p : Addr := kk.2.1
@[irreducible] noncomputable def o : Obj := kk.2.2.1
@[irreducible] noncomputable def k : Nat := kk.2.2.2.1
@[irreducible] noncomputable def many : Int := kk.2.2.2.2.1
@[irreducible] noncomputable def tm : Tok := kk.2.2.2.2.2.1
@[irreducible] noncomputable def rest : Led := kk.2.2.2.2.2.2
noncomputable def yy : Fm := Classical.epsilon fun y => ¬ PremE w 217 [.ref p, .int many tm] 4 100 ((p, o) :: rest) (fun r l => ∃ x t o', r = .str x t ∧ GoodS 200 x ∧ IsPool o' (k + 20) ∧ l = (p, o') :: rest) y
end PtH
open PtH in
theorem PtH.main (hr : ∀ q ∈ rest, q.1 ≠ p) (hp : IsPool o k) (hk : k < 900) (hm0 : 0 < many) (hm1 : many ≤ 12) : PremE w 217 [.ref p, .int many tm] 4 100 ((p, o) :: rest) (fun r l => ∃ x t o', r = .str x t ∧ GoodS 200 x ∧ IsPool o' (k + 20) ∧ l = (p, o') :: rest) yy := by
  k_dflt (refine' premE_of ?k6 ?hb ?_; (case k6 => (with_unfolding_all rfl)); (case hb => (with_unfolding_all rfl)); k_whole)
  k_fill
  intro cells B F X N Y l1 T hd hu
  have pL : @LT.lt Nat instLTNat p yy.L := l1 _ (.head _)
  have c1 : ∀ q ∈ rest, q.1 ≠ yy.L + 1 := fun q hq => Nat.ne_of_lt (Nat.lt_succ_of_lt (l1 q (.tail _ hq)))
  have c2 : ∀ q ∈ rest, q.1 ≠ yy.L + 1 + 1 := fun q hq => Nat.ne_of_lt (Nat.lt_succ_of_lt (Nat.lt_succ_of_lt (l1 q (.tail _ hq))))
  k_cells Y
  (try simp only [List.cons_append, List.nil_append] at N)
  (with_reducible show wpAny _ _ _ _ _ _)
  k_fold
  k_steps
  (rename IsRange _ _ _ _ _ _ _ _ => hr9)
  unfold SrcMark
  k_dflt (refine' LCg.CompSrc.range ?hh ?F ?N hr9 ?hsm (rangeSize_nat _ _) ?hsz ?_; (case hh => rfl); (case F => k_asm); (case N => k_asm); (case hsm => exact small_one (by omega) (by omega) (by omega) (by omega)); (case hsz => (rw [PySem.sizeLine_eq]; omega)); k_whole)
  intro g'
  (rename IsPool _ (k + 1) => hp1)
  k_dflt (refine' comp_texts (b := 15) (ld := fun o' => (_, _) :: (_, _) :: (_, _) :: (p, o') :: rest) hp1 ?turn ?fin)
  case turn =>
    intro i o9 I oI C oC D m₂ ys h tk E' hi hp2 hC F9 N9 off ne
    (try dsimp only at N9)
    simp only [LCg.Off3, and_true] at off
    k_steps
    (rename (_ : Value) ∈ _ => hv)
    (rename IsPool _ (k + 1 + i + 1) => hp3)
    exact LCg.CompEnd.intro (by k_asm) (by k_asm) ((_, _) :: (_, _) :: (_, _) :: (p, _) :: rest) (fun q h => h) (by simp only [LCg.Off3, and_true]; exact off) trivial ⟨_, hp3, rfl, good_lits (ls := [Str.ofString "/", Str.ofString "a", Str.ofString "b.", Str.ofString "..", Str.ofString "//", Str.ofString "c d", Str.ofString "/e", Str.ofString ".", Str.ofString "é", Str.ofString "name of fifteen"]) (by repeat constructor) (by decide +kernel) _ (Array.mem_toList_iff.mpr hv)⟩
  case fin =>
    intro ys ss o9 hy hl hg hp2 D h tk F9 N9 off
    (try dsimp only at N9)
    simp only [LCg.Off1, and_true] at off
    have hp2 := hp2.le (show k + 1 + _ ≤ k + 13 by omega)
    k_steps
    all_goals ((rename GoodS _ _ => hx8); (try dsimp only); walk_at "nz out"; (case P => exact ⟨_, _, _, rfl, hx8.le (by decide), IsPool.le (by assumption) (by omega), rfl⟩); (case N => walk_at "nz news"))
open PtH in
theorem PtH.fin (hr : ∀ q ∈ rest, q.1 ≠ p) (hp : IsPool o k) (hk : k < 900) (hm0 : 0 < many) (hm1 : many ≤ 12) : Ctr w 217 [.ref p, .int many tm] 4 100 ((p, o) :: rest) (fun r l => ∃ x t o', r = .str x t ∧ GoodS 200 x ∧ IsPool o' (k + 20) ∧ l = (p, o') :: rest) NoE := by
  have h : ∀ y, PremE w 217 [.ref p, .int many tm] 4 100 ((p, o) :: rest) (fun r l => ∃ x t o', r = .str x t ∧ GoodS 200 x ∧ IsPool o' (k + 20) ∧ l = (p, o') :: rest) y := henk (PtH.main hr hp hk hm0 hm1)
  k_dflt (refine' ctr_cells (binds := [(Str.ofString "pool", .ref p), (Str.ofString "many", .int many tm)]) ?k6 ?k7 ?k9 ?kB ?kD ?c2 ?c3 ?c4 ?_; (case k6 => (with_unfolding_all rfl)); (case k7 => (with_unfolding_all rfl)); (case k9 => exact rfl); (case kB => exact rfl); (case kD => decide +kernel); (case c2 => exact rfl); (case c3 => exact rfl); (case c4 => exact rfl); k_whole)
  intro mean mg mb dp un gd env outer base g L cells s B F X N Y l1 T hd hu
  (with_unfolding_all refine' h ⟨mean, mg, mb, dp, un, gd, env, outer, base, g, L, s⟩ _ _ _ _ _ _ _ _ _ _ _ _ _ _ _ ?k6 ?zcells ?zB ?zF ?zX ?zN ?zY ?zl1 ?zT ?zhd ?zhu)
  (case k6 => with_unfolding_all rfl)
  (case zcells => with_unfolding_all exact cells)
  (case zB => with_unfolding_all exact B)
  (case zF => with_unfolding_all exact F)
  (case zX => with_unfolding_all exact X)
  (case zN => with_unfolding_all exact N)
  (case zY => with_unfolding_all exact Y)
  (case zl1 => with_unfolding_all exact l1)
  (case zT => with_unfolding_all exact T)
  (case zhd => with_unfolding_all exact hd)
  (case zhu => with_unfolding_all exact hu)
theorem c_path (w : World) (p : Addr) (o : Obj) (k : Nat) (many : Int) (tm : Tok) (rest : Led) (hr : ∀ q ∈ rest, q.1 ≠ p) (hp : IsPool o k) (hk : k < 900) (hm0 : 0 < many) (hm1 : many ≤ 12) : Ctr w 217 [.ref p, .int many tm] 4 100 ((p, o) :: rest) (fun r l => ∃ x t o', r = .str x t ∧ GoodS 200 x ∧ IsPool o' (k + 20) ∧ l = (p, o') :: rest) NoE := by
  refine henk (P := fun y => PtH.SS y.1 y.2.1 y.2.2.1 y.2.2.2.1 y.2.2.2.2.1 y.2.2.2.2.2.1 y.2.2.2.2.2.2) ?_ (w, p, o, k, many, tm, rest) hr hp hk hm0 hm1
  intro hr hp hk hm0 hm1
  with_unfolding_all exact PtH.fin hr hp hk hm0 hm1
end
section
local macro_rules | `(tactic| walk_at $s:str) => `(tactic| k_extra $(Lean.Syntax.mkStrLit ("67 " ++ s.getString)))
local macro_rules | `(tactic| k_mem) => `(tactic| k_extra "67 nz mem")
local macro_rules | `(tactic| walk_at "nz pad") => `(tactic| skip)
local macro_rules | `(tactic| walk_at "nz pad") => `(tactic| skip)
theorem off_NzH1 : True := by
  w_top off
  trivial
open PySem PySem.W PySem.Calls PyProof.Rows
theorem kw0_NzH1 : True := by
  k_with "67 nz pq" => k_extra "L0"
  k_with "67 nz pn" => k_extra "L1"
  k_with "67 nz pi" => k_extra "L2"
  k_with "67 nz pr" => k_extra "L3"
  k_with "67 nz oo" => k_extra "L4"
  k_with "67 nz zz" => k_extra "L5"
  k_with "67 nz om" => k_extra "L6"
  k_with "67 nz enter" => k_extra "L7"
  k_with "67 nz intro" => k_extra "L8"
  k_with "67 nz go" => k_extra "L9"
  k_with "67 nz end" => k_extra "L10"
  k_with "67 subscriptTail" => k_extra "L11"
  k_with "67 setItem ref int" => k_extra "L12"
  k_with "67 nz side" => k_extra "L13"
  k_with "67 nz pick" => k_extra "L14"
  k_with "67 nz sub" => k_extra "L15"
  k_with "67 nz news" => k_extra "L16"
  k_with "67 nz same" => k_extra "L17"
  k_with "67 nz out" => k_extra "L18"
  k_with "67 nz len" => k_extra "L19"
  k_with "67 getMethod str" => k_extra "L30"
  k_with "67 call builtin:str.encode" => k_extra "L31"
  k_with "67 call type:bytes" => k_extra "L32"
  k_with "67 call type:bytes" => k_extra "L33"
  k_with "67 call type:bytes" => k_extra "L34"
  k_with "67 call builtin:isinstance" => k_extra "L35"
  k_with "67 nz size" => k_extra "L36"
  k_with "67 nz mem" => k_extra "L125"
  k_with "67 nz enterC" => k_extra "L40"
  k_with "67 nz introC" => k_extra "L41"
  k_with "67 nz goC" => k_extra "L42"
  k_with "67 nz steps" => k_extra "L43"
  k_with "67 last wpC" => k_extra "L44"
  k_with "67 wpC" => k_extra "L45"
  k_with "67 wpC" => k_extra "L46"
  k_with "67 wpC" => k_extra "L47"
  k_with "67 wpC" => k_extra "L48"
  k_with "67 wpC" => k_extra "L49"
  k_with "67 wpC" => k_extra "L50"
  k_with "67 wpC" => k_extra "L51"
  k_with "67 wpC" => k_extra "L52"
  k_with "67 wpC" => k_extra "L53"
  k_with "67 wpC" => k_extra "L54"
  k_with "67 wpC" => k_extra "L55"
  k_with "67 wpC" => k_extra "L56"
  k_with "67 wpC" => k_extra "L57"
  k_with "67 wpC" => k_extra "L58"
  k_with "67 wpC" => k_extra "L59"
  k_with "67 wpC" => k_extra "L60"
  k_with "67 wpC" => k_extra "L61"
  k_with "67 getMethod ref" => k_extra "L62"
  k_with "67 wpC" => k_extra "L63"
  k_with "67 nz turn" => k_extra "L64"
  k_with "67 call builtin:len" => k_extra "L65"
  k_with "67 call ref" => k_extra "L126"
  k_with "67 call ref" => k_extra "L127"
  k_with "67 wpC" => k_extra "L68"
  k_with "67 wpC" => k_extra "L69"
  k_with "67 wpC" => k_extra "L70"
  k_with "67 wpC" => k_extra "L71"
  trivial
namespace PaH
def SS (w : World) (a : Addr) (b : Array UInt8) (ks : List Int) (news : Led) : Prop := (a, baObj b) ∈ news → KBw.bInts b = ks → ks.length ≤ 1000 → CtrC w 184 [.ref a] 3 24 news (fun r l => ∃ fa vs n, r = .ref fa ∧ BytesAre vs (names ks) ∧ l = (fa, listOf vs.toArray n) :: news ∧ ∀ p ∈ news, p.1 < fa)
noncomputable def kk : World × Addr × (Array UInt8) × (List Int) × Led := Classical.epsilon fun y => ¬ SS y.1 y.2.1 y.2.2.1 y.2.2.2.1 y.2.2.2.2
@[irreducible] noncomputable def w : World := kk.1
@[irreducible] noncomputable def a : Addr := kk.2.1
@[irreducible] noncomputable def b : Array UInt8 := kk.2.2.1
@[irreducible] noncomputable def ks : List Int := kk.2.2.2.1
@[irreducible] noncomputable def news : Led := kk.2.2.2.2
noncomputable def yy : Fm := Classical.epsilon fun y => ¬ PremC w 184 [.ref a] 3 24 news (fun r l => ∃ fa vs n, r = .ref fa ∧ BytesAre vs (names ks) ∧ l = (fa, listOf vs.toArray n) :: news ∧ ∀ p ∈ news, p.1 < fa) y
end PaH
open PaH in
theorem PaH.main (hm : (a, baObj b) ∈ news) (hb : KBw.bInts b = ks) (hz : ks.length ≤ 1000) : PremC w 184 [.ref a] 3 24 news (fun r l => ∃ fa vs n, r = .ref fa ∧ BytesAre vs (names ks) ∧ l = (fa, listOf vs.toArray n) :: news ∧ ∀ p ∈ news, p.1 < fa) yy := by
  k_dflt (refine' premC_of ?k6 ?hb ?_; (case k6 => (with_unfolding_all rfl)); (case hb => (with_unfolding_all rfl)); k_whole)
  k_fill
  intro B F X N T hd hu
  (try dsimp only)
  k_steps
  (rename KBw.bInts (_ ++ _) = _ => q)
  have q' : KBw.bInts (b ++ #[47]) = ks ++ [47] := q
  (rename (_ < _ ∧ AllLt _ _) => z9)
  rename_i fa _ lfa _ _ _ D0 _ ltD _ _ _ _ _ _ _
  k_dflt (refine' forC_bytes (m₀ := _) (σ := List Value × Nat × Addr × Array UInt8) (fun c y => if y = Str.ofString "found" then some (.ref fa) else if y = Str.ofString "part" then some (.ref c.2.2.1) else List.lookup y [(Str.ofString "path", Value.ref a)]) (fun c => (c.2.2.1, baObj c.2.2.2) :: (fa, listOf c.1.toArray c.2.1) :: news) (fun i c => BytesAre c.1 (pst ks i).1 ∧ KBw.bInts c.2.2.2 = (pst ks i).2 ∧ (∀ p ∈ news, p.1 ≠ c.2.2.1) ∧ neN8 fa c.2.2.1) ([], 0, a9, #[]) q' rfl F9 N9 ?sb ?h0 ?hm ?turn ?done)
  case hm => exact fun y hy => by rfl
  case sb => exact sub_tail (sub_rfl)
  case h0 => exact ⟨.nil, rfl, allLt_ne z9.2, Nat.ne_of_lt z9.1⟩
  case turn =>
    intro i k tk c I o s' hx k0 k1 hP off F1 N1 hS
    obtain ⟨fv, fn, pa, pb⟩ := c
    obtain ⟨p1, p2, p3, p4⟩ := hP
    dsimp only at p1 p2 p3 p4 off F1 N1
    have o1 : (_ : Nat) ≠ I := off _ (.head _)
    have o2 : (_ : Nat) ≠ I := off _ (.tail _ (.head _))
    dsimp only at o1 o2
    have p4 : (_ : Nat) ≠ pa := p4
    have hi : i ≤ 1001 := by
      have := (List.getElem?_eq_some_iff.mp hx).1
      simp at this; omega
    have hfl : fv.length ≤ 1001 := by have := (pst_small ks i).1; rw [p1.length]; omega
    have hpl : (pst ks i).2.length ≤ 1001 := by have := (pst_small ks i).2; omega
    k_steps
    · refine' turnQ_of (fv, fn, pa, _) ?F ?B ?N ?off ?hP ?S
      case F => k_asm
      case S => exact Same.trans (by assumption) ⟨rfl, rfl, rfl⟩
      case N => k_asm
      case B => exact fun y hy => by simp only [if_neg hy]
      case off => exact off_upd off
      case hP => (rename k ≠ 47 => hk47); rw [pst_next hx]; unfold pstep; rw [if_pos hk47]; exact ⟨p1, by assumption, p3, p4⟩
    · exact parts_turn (by assumption) (by assumption) (by assumption) (by assumption) (Same.trans hS ⟨rfl, rfl, rfl⟩) off hx (by assumption) (by omega) p1
    · refine' turnQ_of (fv, fn, pa, pb) ?F ?B ?N ?off ?hP ?S
      case F => k_asm
      case S => exact Same.trans (by assumption) ⟨rfl, rfl, rfl⟩
      case N => k_asm
      case B => exact fun y hy => by simp only [if_neg hy]
      case off => exact off
      case hP =>
        (rename ¬ 0 < _ => hl)
        rw [pst_next hx]; unfold pstep; rw [if_neg (by omega), if_neg (by omega)]
        exact ⟨p1, p2, p3, p4⟩
  case done =>
    intro v' c s' hP F1 N1 hS
    obtain ⟨fv, fn, pa, pb⟩ := c
    obtain ⟨p1, p2, p3, p4⟩ := hP
    dsimp only at p1 p2 p3 p4 F1 N1
    k_steps
    walk_at "nz out"
    case P => exact ⟨fa, fv, fn, rfl, by (have e : (ks ++ [47]).length = ks.length + 1 := by simp); rw [e] at p1; exact p1, rfl, lfa⟩
    case N => walk_at "nz news"
open PaH in
theorem PaH.fin (hm : (a, baObj b) ∈ news) (hb : KBw.bInts b = ks) (hz : ks.length ≤ 1000) : CtrC w 184 [.ref a] 3 24 news (fun r l => ∃ fa vs n, r = .ref fa ∧ BytesAre vs (names ks) ∧ l = (fa, listOf vs.toArray n) :: news ∧ ∀ p ∈ news, p.1 < fa) := by
  have h : ∀ y, PremC w 184 [.ref a] 3 24 news (fun r l => ∃ fa vs n, r = .ref fa ∧ BytesAre vs (names ks) ∧ l = (fa, listOf vs.toArray n) :: news ∧ ∀ p ∈ news, p.1 < fa) y := henk (PaH.main hm hb hz)
  walk_at "nz enterC"
  intro mean mg mb dp un gd env outer base g L s B F X N T hd hu
  (with_unfolding_all refine' h ⟨mean, mg, mb, dp, un, gd, env, outer, base, g, L, s⟩ _ _ _ _ _ _ _ _ _ _ _ _ _ _ _ ?k6 ?zB ?zF ?zX ?zN ?zT ?zhd ?zhu)
  (case k6 => with_unfolding_all rfl)
  (case zB => with_unfolding_all exact B)
  (case zF => with_unfolding_all exact F)
  (case zX => with_unfolding_all exact X)
  (case zN => with_unfolding_all exact N)
  (case zT => with_unfolding_all exact T)
  (case zhd => with_unfolding_all exact hd)
  (case zhu => with_unfolding_all exact hu)
theorem c_parts_of_a (w : World) (a : Addr) (b : Array UInt8) (ks : List Int) (news : Led) (hm : (a, baObj b) ∈ news) (hb : KBw.bInts b = ks) (hz : ks.length ≤ 1000) : CtrC w 184 [.ref a] 3 24 news (fun r l => ∃ fa vs n, r = .ref fa ∧ BytesAre vs (names ks) ∧ l = (fa, listOf vs.toArray n) :: news ∧ ∀ p ∈ news, p.1 < fa) := by
  refine henk (P := fun y => PaH.SS y.1 y.2.1 y.2.2.1 y.2.2.2.1 y.2.2.2.2) ?_ (w, a, b, ks, news) hm hb hz
  intro hm hb hz
  with_unfolding_all exact PaH.fin hm hb hz
end
section
theorem off_NzH2 : True := by
  w_top off
  trivial
open PySem PySem.W PySem.Calls PyProof.Rows
section
variable {M : Model} {A : Around} {E : Value → Shared → Prop} {s : Shared} {env : Env}
theorem wpC_Subscript {value slice : Expr} {pos : Pos} {Q : Value → Shared → Prop}
    (h : wpC M A (eval value env) (fun o s₁ => wpAny M A (eval slice env) (fun i s₂ => wpAny M A (subscriptTail value slice o i) Q E s₂) E s₁) E s) : wpC M A (eval (.Subscript value slice pos) env) Q E s := by
  rw [eval_Subscript]
  exact wpC_bind (wpC_mono h (fun o s₁ h₁ => wpC_any (wpAny_bind (wpAny_holding (wpAny_mono h₁ (fun i s₂ h₂ => wpAny_bind (wpAny_standAt h₂)) fun _ _ x => x)))) fun _ _ x => x)
theorem wpC_callWith_X {K : Frag} {h₀ : Heap} {f : Value} {first : List Value} {pos : Pos} {e : Expr} {rest : List Expr} {Q : Value → Shared → Prop} (X : K.In h₀) (hk : keepIn K f = true) (h : wpC M A (spliced (backTo pos (starEach (e :: rest) env))) (fun vs s₁ => K.In s₁.heap ∧ wpC M A (call f (first ++ vs)) Q E s₁) E s)
    (he : starEach (e :: rest) env = (false, eval e env) :: starEach rest env := by rfl) (hplain : (backTo pos (starEach rest env)).any (·.1) = false := by rfl) :
    wpC M A (callWith pos f first (backTo pos (starEach (e :: rest) env)) []) Q E s := wpC_callWith_K (h₀ := h₀) hk h he hplain
end
theorem octB {w : World} {b : Array UInt8} {t : Tok} : OctOf w (.bytes b t) b := fun led => c_octets_b w b t led
theorem GoodS.plain {n : Nat} {x : Str} (h : GoodS n x) : ∀ c ∈ x.cps, Str.isSurrogate c = false := fun c hc => by
  have := (h.1 c hc).2
  unfold Str.isSurrogate
  simp only [Bool.and_eq_false_iff, decide_eq_false_iff_not]
  exact .inl (by omega)
theorem utf_good {c : Nat} (h0 : 0 < c) (h1 : c < 256) : (∀ u ∈ Str.utf8Of c, u ≠ 0) ∧ (Str.utf8Of c).length ≤ 2 := by
  unfold Str.utf8Of
  have key : ∀ m : Nat, 0 < m → m < 256 → m.toUInt8 ≠ 0 := fun m m0 m1 e => by
    have := congrArg UInt8.toNat e
    simp only [Nat.toUInt8, UInt8.toNat_ofNat'] at this
    have e2 : (0 : UInt8).toNat = 0 := rfl
    rw [e2] at this
    omega
  by_cases hc : c < 128
  · rw [if_pos hc]
    exact ⟨fun u hu => by rw [List.mem_singleton.mp hu]; exact key c h0 h1, Nat.le_succ _⟩
  · rw [if_neg hc, if_pos (by omega)]
    refine ⟨fun u hu => ?_, Nat.le_refl _⟩
    rcases List.mem_cons.mp hu with rfl | hu
    · exact key _ (by omega) (by omega)
    · rw [List.mem_singleton.mp hu]; exact key _ (by omega) (by omega)
theorem encL {P : UInt8 → Prop} (l : List Nat) (h : ∀ c ∈ l, (∀ u ∈ Str.utf8Of c, P u) ∧ (Str.utf8Of c).length ≤ 2) : ∀ acc : Array UInt8, (∀ u ∈ acc, P u) →
    (∀ u ∈ l.foldl (fun acc y => acc ++ (Str.utf8Of y).toArray) acc, P u) ∧ (l.foldl (fun acc y => acc ++ (Str.utf8Of y).toArray) acc).size ≤ acc.size + 2 * l.length := by
  induction l with
  | nil => exact fun acc ha => ⟨ha, Nat.le_refl _⟩
  | cons c r ih =>
    intro acc ha
    have hc := h c (.head _)
    have := ih (fun d hd => h d (.tail _ hd)) (acc ++ (Str.utf8Of c).toArray) fun u hu => by
      rcases Array.mem_append.mp hu with hu | hu
      · exact ha u hu
      · exact hc.1 u (by simpa using hu)
    refine ⟨this.1, Nat.le_trans this.2 ?_⟩
    simp only [Array.size_append, List.size_toArray, List.length_cons]
    omega
/-- the octets of a text of few letters: none is 0, and they are not many -/
theorem enc_good {n : Nat} {x : Str} (h : GoodS n x) : (∀ k ∈ KBw.bInts (encB x), k ≠ 0) ∧ (KBw.bInts (encB x)).length ≤ 2 * n := by
  have := encL (P := fun u => u ≠ 0) x.cps.toList (fun c hc => utf_good (h.1 c (by simpa using hc)).1 (h.1 c (by simpa using hc)).2) #[] (fun u hu => by simp at hu)
  have e : encB x = x.cps.toList.foldl (fun acc y => acc ++ (Str.utf8Of y).toArray) #[] := by
    unfold encB; rw [Array.foldl_toList]
  rw [← e] at this
  refine ⟨fun k hk => ?_, ?_⟩
  · obtain ⟨c, hc, rfl⟩ := List.mem_map.mp hk
    have hz := this.1 c (by simpa using hc)
    intro q
    refine hz ?_
    have q' : c.toNat = 0 := by omega
    exact UInt8.toNat_inj.mp q'
  · rw [KBw.ints_length]
    have h2 := this.2
    have h3 : x.cps.size ≤ n := h.2
    simp only [Array.size_empty, Array.length_toList] at h2
    have : x.cps.size = x.cps.toList.length := by simp
    simp at h2
    omega
theorem pst_names (ks : List Int) : ∀ i, (∀ nm ∈ (pst ks i).1, nm.length ≤ 14 ∧ ∀ j ∈ nm, j ∈ ks) ∧ ∀ j ∈ (pst ks i).2, j ∈ ks := by
  intro i
  induction i with
  | zero => exact ⟨(fun _ h => nomatch h), (fun _ h => nomatch h)⟩
  | succ i ih =>
    cases hx : (ks ++ [47])[i]? with
    | none =>
      have : pst ks (i + 1) = pst ks i := by
        unfold pst
        rw [List.take_add_one, hx]; simp
      rw [this]; exact ih
    | some k =>
      rw [pst_next hx]
      unfold pstep
      split
      · rename_i hk
        refine ⟨ih.1, fun j hj => ?_⟩
        rcases List.mem_append.mp hj with hj | hj
        · exact ih.2 j hj
        · rw [List.mem_singleton.mp hj]
          rcases List.mem_append.mp (List.mem_of_getElem? hx) with hm | hm
          · exact hm
          · exact absurd (List.mem_singleton.mp hm) hk
      · split
        · refine ⟨fun nm hn => ?_, fun _ h => nomatch h⟩
          rcases List.mem_append.mp hn with hn | hn
          · exact ih.1 nm hn
          · rw [List.mem_singleton.mp hn]
            exact ⟨by simp; omega, fun j hj => ih.2 j (List.mem_of_mem_take hj)⟩
        · exact ih
/-- the row of a name -/
def rowL (n : Int) (ks : List Int) : List Int := (putHalf (List.replicate 16 0) 0 n).take 2 ++ ks ++ (putHalf (List.replicate 16 0) 0 n).drop (2 + ks.length)
theorem rowL_eq {n : Int} {ks : List Int} (h : ks.length ≤ 14) : rowL n ks = [n % 256, n / 256 % 256] ++ ks ++ List.replicate (14 - ks.length) 0 := by
  unfold rowL putHalf
  have e : (((List.replicate 16 (0 : Int)).set 0 (n % 256)).set (0 + 1) (n / 256 % 256)) = [n % 256, n / 256 % 256] ++ List.replicate 14 0 := rfl
  rw [e]
  have e1 : ([n % 256, n / 256 % 256] ++ List.replicate 14 (0 : Int)).take 2 = [n % 256, n / 256 % 256] := rfl
  rw [e1, List.drop_append]
  have e2 : [n % 256, n / 256 % 256].drop (2 + ks.length) = [] := List.drop_of_length_le (by simp)
  rw [e2, List.drop_replicate, List.nil_append]
  show _ ++ List.replicate (14 - (2 + ks.length - 2)) 0 = _
  rw [show 14 - (2 + ks.length - 2) = 14 - ks.length by omega]
theorem rowL_length {n : Int} {ks : List Int} (h : ks.length ≤ 14) : (rowL n ks).length = 16 := by
  rw [rowL_eq h]; simp; omega
theorem rowL_drop {n : Int} {ks : List Int} (h : ks.length ≤ 14) : (rowL n ks).drop 2 = ks ++ List.replicate (14 - ks.length) 0 := by
  rw [rowL_eq h]; rfl
theorem rowL_0 {n : Int} {ks : List Int} (h : ks.length ≤ 14) : (rowL n ks).getD 0 0 = n % 256 := by rw [rowL_eq h]; rfl
theorem rowL_1 {n : Int} {ks : List Int} (h : ks.length ≤ 14) : (rowL n ks).getD 1 0 = n / 256 % 256 := by rw [rowL_eq h]; rfl
theorem rowL_half {n : Int} {ks : List Int} (h : ks.length ≤ 14) (h0 : 0 ≤ n) (h1 : n < 65536) : halfI (rowL n ks) 0 = n := by
  unfold halfI
  rw [rowL_0 h, rowL_1 h]; omega
theorem rowL_name {n : Int} {ks : List Int} (h : ks.length ≤ 14) (hz : ∀ k ∈ ks, k ≠ 0) : ((rowL n ks).drop 2).takeWhile (fun k => decide (k ≠ 0)) = ks := by
  rw [rowL_drop h, List.takeWhile_append_of_pos (fun k hk => decide_eq_true (hz k hk))]
  have : (List.replicate (14 - ks.length) (0 : Int)).takeWhile (fun k => decide (k ≠ 0)) = [] := by
    cases (14 - ks.length) with
    | zero => rfl
    | succ m => rfl
  rw [this, List.append_nil]
theorem bInts_zeros (m : Nat) : KBw.bInts (Array.replicate m 0) = List.replicate m 0 := by
  unfold KBw.bInts
  simp
theorem by_zeros {prog : Program} {w : World} {A : Around} {E : Value → Shared → Prop} {s : Shared} {n : Int} {t : Tok} {Q : Value → Shared → Prop} (h0 : 0 ≤ n) (h1 : n ≤ 16777216) (h : ∀ b t k, KBw.bInts b = List.replicate n.toNat 0 → Q (.bytes b t) { s with toks := k }) :
    wpAny (model prog w) A (call (.type "bytes") [.int n t]) Q E s := by_call_int h0 h1 fun t k => h _ t k (bInts_zeros _)
theorem add_gen {prog : Program} {w : World} {A : Around} {E : Value → Shared → Prop} {s : Shared} {b c : Array UInt8} {ks ls : List Int} {t u : Tok} {Q : Value → Shared → Prop} (hb : KBw.bInts b = ks) (hc : KBw.bInts c = ls) (hsz : ks.length + ls.length ≤ 16777216) (h : ∀ d t' k, KBw.bInts d = ks ++ ls → Q (.bytes d t') { s with toks := k }) :
    wpAny (model prog w) A (binaryOp .Add (.bytes b t) (.bytes c u)) Q E s := KBa.add_K hb hc hsz fun t' k e => h _ t' k e
theorem pick2 {n : Int} {ks : List Int} (h : ks.length ≤ 14) : List.take ((rowL n ks).length - clipAt (rowL n ks).length 2) (List.drop (clipAt (rowL n ks).length 2) (rowL n ks)) = ks ++ List.replicate (14 - (ks.length : Int)).toNat 0 := by
  rw [rowL_length h]
  show List.take 14 (List.drop 2 (rowL n ks)) = _
  rw [rowL_drop h, show (14 - (ks.length : Int)).toNat = 14 - ks.length by omega]
  exact List.take_of_length_le (by simp; omega)
theorem ne_false {a b : Array UInt8} {ks ls : List Int} (ha : KBw.bInts a = ks) (hb : KBw.bInts b = ls) (e : ks = ls) (h : (a.toList != b.toList) = true) : False := by
  have : a = b := bInts_inj (by rw [ha, hb, e])
  rw [this] at h
  simp at h
theorem eq_true8 {a b : Array UInt8} {ks ls : List Int} (ha : KBw.bInts a = ks) (hb : KBw.bInts b = ls) (e : ks = ls) : (a.toList == b.toList) = true := by
  have : a = b := bInts_inj (by rw [ha, hb, e])
  rw [this]
  simp
theorem lenRow {b : Array UInt8} {n : Int} {ks : List Int} (_ : KBw.bInts b = rowL n ks) (h : ks.length ≤ 14) : (rowL n ks).length = 16 := rowL_length h
end
section
theorem off_NzH3 : True := by
  w_top off
  trivial
open PySem PySem.W PySem.Calls PyProof.Rows
abbrev rwBase (m₀ : Str → Option Value) (c : Obj × Option Value × Option Value) (y : Str) : Option Value := if y = Str.ofString "row" then c.2.1 else if y = Str.ofString "number" then c.2.2 else m₀ y
abbrev rwLd (l p : Addr) (vs : Array Value) (nl : Nat) (rest : Led) (c : Obj × Option Value × Option Value) : Led := (l, listOf vs nl) :: (p, c.1) :: rest
section
variable {prog : Program} {w : World} {A : Around} {E : Value → Shared → Prop} {s : Shared} {name : Str} {scope : Scope} {L a : Addr} {cd : Value} {g : Heap} {m₀ : Str → Option Value} {pos : Pos} {body : List Stmt} {Q : Flow → Shared → Prop}
theorem forC_rows {l p : Addr} {vs : Array Value} {nl k : Nat} {led₀ rest : Led} {o0 : Obj} (hh : A.handled = none) (F : Fr g L s.heap m₀) (N : News g L s.heap led₀) (hs : ∀ q ∈ (l, listOf vs nl) :: (p, o0) :: rest, q ∈ led₀) (hp : IsPool o0 k)
    (turn : ∀ i v o' vr vn I oi s', vs[i]? = some v → IsPool o' (k + i) → (∀ q ∈ (l, listOf vs nl) :: (p, o') :: rest, q.1 ≠ I) →
      Fr g L s'.heap (fun y => if y = Str.ofString "name" then some v else if y = Str.ofString "row" then vr else if y = Str.ofString "number" then vn else m₀ y) → News g L s'.heap ((I, oi) :: (l, listOf vs nl) :: (p, o') :: rest) → Same s s' →
      wpC (model prog w) A (execs body (envOf name scope L a cd)) (TurnQ g L (Str.ofString "name") (rwBase m₀) (rwLd l p vs nl rest) (fun c => IsPool c.1 (k + (i + 1))) I oi s Q) (fun _ _ => False) s')
    (done : ∀ o' v vr vn s', IsPool o' (k + vs.size) → Fr g L s'.heap (fun y => if y = Str.ofString "name" then v else if y = Str.ofString "row" then vr else if y = Str.ofString "number" then vn else m₀ y) → News g L s'.heap ((l, listOf vs nl) :: (p, o') :: rest) → Same s s' → Q .next s')
    (hk : scope.kind = .function := by rfl) (hl : (envOf name scope L a cd).kindOf (Str.ofString "name") = some .local := by rfl) :
    IterC (model prog w) A (envOf name scope L a cd) (.Name (Str.ofString "name") pos) body Q E (.ref l) s :=
  forC_list (rwBase m₀) (rwLd l p vs nl rest) (fun i c => IsPool c.1 (k + i)) (o0, m₀ (Str.ofString "row"), m₀ (Str.ofString "number")) (fun _ => .head _) hh F N hs hp
    (fun y _ => by
      unfold rwBase
      by_cases h1 : y = Str.ofString "row"
      · rw [if_pos h1, h1]
      · by_cases h2 : y = Str.ofString "number"
        · rw [if_neg h1, if_pos h2, h2]
        · rw [if_neg h1, if_neg h2])
    (fun i v c I oi s' hx hP off F1 N1 S => turn i v c.1 c.2.1 c.2.2 I oi s' hx hP off F1 N1 S) (fun v c s' hP F1 N1 S => done c.1 v c.2.1 c.2.2 s' hP F1 N1 S) hk hl
theorem rows_turn {I l p : Addr} {vs : Array Value} {nl k : Nat} {rest : Led} {oi o' : Obj} {s₀ s' : Shared} {v row num : Value} {vr vn : Option Value} (hP : IsPool o' k)
    (F : Fr g L s'.heap (fun y => if y = Str.ofString "row" then some row else if y = Str.ofString "number" then some num else if y = Str.ofString "name" then some v else if y = Str.ofString "row" then vr else if y = Str.ofString "number" then vn else m₀ y))
    (N : News g L s'.heap ((I, oi) :: (l, listOf vs nl) :: (p, o') :: rest)) (o1 : l ≠ I) (o2 : p ≠ I) (o3 : ∀ q ∈ rest, q.1 ≠ I) (S : Same s₀ s') :
    TurnQ g L (Str.ofString "name") (rwBase m₀) (rwLd l p vs nl rest) (fun c => IsPool c.1 k) I oi s₀ Q .next s' := by
  refine turnQ_of (o', some row, some num) F (fun y hy => ?_) N (fun q hq => ?_) hP S
  · unfold rwBase
    by_cases h1 : y = Str.ofString "row"
    · simp only [if_pos h1]
    · by_cases h2 : y = Str.ofString "number"
      · simp only [if_neg h1, if_pos h2]
      · simp only [if_neg h1, if_neg h2, if_neg hy]
  · rcases List.mem_cons.mp hq with rfl | hq
    · exact o1
    · rcases List.mem_cons.mp hq with rfl | hq
      · exact o2
      · exact o3 q hq
end
theorem BytesAre.get {i : Nat} {v : Value} : ∀ {vs : List Value} {nss : List (List Int)}, BytesAre vs nss → vs[i]? = some v → ∃ b t ns, v = .bytes b t ∧ KBw.bInts b = ns ∧ ns ∈ nss := by
  intro vs nss h
  induction h generalizing i with
  | nil => intro hx; simp at hx
  | cons b t hb h ih =>
    intro hx
    cases i with
    | zero =>
      obtain rfl := Option.some.inj hx
      exact ⟨b, t, _, rfl, hb, .head _⟩
    | succ i =>
      obtain ⟨b', t', ns, e, hb', hm⟩ := ih (by simpa using hx)
      exact ⟨b', t', ns, e, hb', .tail _ hm⟩
end
section
local macro_rules | `(tactic| walk_at $s:str) => `(tactic| k_extra $(Lean.Syntax.mkStrLit ("70 " ++ s.getString)))
theorem off_NzH4 : True := by
  w_top off
  trivial
open PySem PySem.W PySem.Calls PyProof.Rows
theorem kw0_NzH4 : True := by
  k_with "70 nz pq" => k_extra "L0"
  k_with "70 nz pn" => k_extra "L1"
  k_with "70 nz pi" => k_extra "L2"
  k_with "70 nz pr" => k_extra "L3"
  k_with "70 nz oo" => k_extra "L4"
  k_with "70 nz zz" => k_extra "L5"
  k_with "70 nz om" => k_extra "L6"
  k_with "70 nz enter" => k_extra "L7"
  k_with "70 nz intro" => k_extra "L8"
  k_with "70 nz go" => k_extra "L9"
  k_with "70 nz end" => k_extra "L10"
  k_with "70 subscriptTail" => k_extra "L11"
  k_with "70 setItem ref int" => k_extra "L12"
  k_with "70 nz side" => k_extra "L13"
  k_with "70 nz pick" => k_extra "L14"
  k_with "70 nz sub" => k_extra "L15"
  k_with "70 nz news" => k_extra "L16"
  k_with "70 nz same" => k_extra "L17"
  k_with "70 nz out" => k_extra "L18"
  k_with "70 nz len" => k_extra "L19"
  k_with "70 getMethod str" => k_extra "L118"
  k_with "70 call builtin:str.encode" => k_extra "L31"
  k_with "70 call type:bytes" => k_extra "L32"
  k_with "70 call type:bytes" => k_extra "L33"
  k_with "70 call type:bytes" => k_extra "L34"
  k_with "70 call builtin:isinstance" => k_extra "L35"
  k_with "70 nz size" => k_extra "L36"
  k_with "70 nz enterC" => k_extra "L40"
  k_with "70 nz introC" => k_extra "L41"
  k_with "70 nz goC" => k_extra "L42"
  k_with "70 nz steps" => k_extra "L43"
  k_with "70 last wpC" => k_extra "L44"
  k_with "70 wpC" => k_extra "L45"
  k_with "70 wpC" => k_extra "L46"
  k_with "70 wpC" => k_extra "L47"
  k_with "70 wpC" => k_extra "L48"
  k_with "70 wpC" => k_extra "L49"
  k_with "70 wpC" => k_extra "L50"
  k_with "70 wpC" => k_extra "L128"
  k_with "70 wpC" => k_extra "L52"
  k_with "70 wpC" => k_extra "L53"
  k_with "70 wpC" => k_extra "L54"
  k_with "70 wpC" => k_extra "L55"
  k_with "70 wpC" => k_extra "L56"
  k_with "70 wpC" => k_extra "L57"
  k_with "70 wpC" => k_extra "L58"
  k_with "70 wpC" => k_extra "L59"
  k_with "70 wpC" => k_extra "L60"
  k_with "70 wpC" => k_extra "L61"
  k_with "70 getMethod ref" => k_extra "L62"
  k_with "70 wpC" => k_extra "L63"
  k_with "70 nz turn" => k_extra "L64"
  k_with "70 call builtin:len" => k_extra "L65"
  k_with "70 nz B" => k_extra "L116"
  k_with "70 binaryOp Add ref ref" => k_extra "L117"
  k_with "70 wpC" => k_extra "L129"
  k_with "70 wpC" => k_extra "L130"
  k_with "70 wpC" => k_extra "L131"
  k_with "70 wpC" => k_extra "L132"
  k_with "70 wpC" => k_extra "L133"
  k_with "70 wpC" => k_extra "L134"
  k_with "70 wpC" => k_extra "L135"
  k_with "70 wpC" => k_extra "L136"
  k_with "70 wpC" => k_extra "L137"
  k_with "70 wpC" => k_extra "L138"
  k_with "70 wpC" => k_extra "L139"
  k_with "70 wpC" => k_extra "L140"
  k_with "70 wpC" => k_extra "L141"
  k_with "70 wpC" => k_extra "L142"
  k_with "70 wpC" => k_extra "L143"
  k_with "70 wpC" => k_extra "L144"
  k_with "70 wpC" => k_extra "L145"
  k_with "70 wpC" => k_extra "L146"
  k_with "70 nz len" => k_extra "L147"
  k_with "70 binaryOp Add bytes bytes" => k_extra "L148"
  k_with "70 call type:bytes" => k_extra "L149"
  k_with "70 compareOp NotEq ref ref" => k_extra "L150"
  k_with "70 call ref" => k_extra "L123"
  k_with "70 wpC" => k_extra "L151"
  k_with "70 wpC" => k_extra "L152"
  k_with "70 wpC" => k_extra "L153"
  k_with "70 wpC" => k_extra "L154"
  k_with "70 wpC" => k_extra "L155"
  k_with "70 wpC" => k_extra "L156"
  k_with "70 call ref" => k_extra "L157"
  k_with "70 call ref" => k_extra "L158"
  k_with "70 isTrue BoolOp" => k_extra "L105"
  trivial
namespace PrH
def SS (w : World) (p : Addr) (o : Obj) (k : Nat) (n : Nat) (x : Str) (t : Tok) (rest : Led) : Prop := (∀ q ∈ rest, q.1 ≠ p) → IsPool o k → GoodS n x → n ≤ 200 → k + 2 * n + 1 < 990 → CtrC w 231 [.ref p, .str x t] 5 60 ((p, o) :: rest) (fun r l => r = .bool true ∧ ∃ o', IsPool o' (k + 2 * n + 1) ∧ l = (p, o') :: rest)
noncomputable def kk : World × Addr × Obj × Nat × Nat × Str × Tok × Led := Classical.epsilon fun y => ¬ SS y.1 y.2.1 y.2.2.1 y.2.2.2.1 y.2.2.2.2.1 y.2.2.2.2.2.1 y.2.2.2.2.2.2.1 y.2.2.2.2.2.2.2
@[irreducible] noncomputable def w : World := kk.1
@[irreducible] noncomputable def p : Addr := kk.2.1
@[irreducible] noncomputable def o : Obj := kk.2.2.1
@[irreducible] noncomputable def k : Nat := kk.2.2.2.1
@[irreducible] noncomputable def n : Nat := kk.2.2.2.2.1
@[irreducible] noncomputable def x : Str := kk.2.2.2.2.2.1
@[irreducible] noncomputable def t : Tok := kk.2.2.2.2.2.2.1
@[irreducible] noncomputable def rest : Led := kk.2.2.2.2.2.2.2
noncomputable def yy : Fm := Classical.epsilon fun y => ¬ PremC w 231 [.ref p, .str x t] 5 60 ((p, o) :: rest) (fun r l => r = .bool true ∧ ∃ o', IsPool o' (k + 2 * n + 1) ∧ l = (p, o') :: rest) y
end PrH
open PrH in
theorem PrH.main (hr : ∀ q ∈ rest, q.1 ≠ p) (hp : IsPool o k) (hg : GoodS n x) (hn : n ≤ 200) (hk : k + 2 * n + 1 < 990) : PremC w 231 [.ref p, .str x t] 5 60 ((p, o) :: rest) (fun r l => r = .bool true ∧ ∃ o', IsPool o' (k + 2 * n + 1) ∧ l = (p, o') :: rest) yy := by
  have hx := hg.plain
  obtain ⟨hz0, hzl⟩ := enc_good hg
  have hvS : OctOf w (.str x t) (encB x) := fun led => c_octets_s w x t led hx (Nat.le_trans hg.2 (by omega))
  have hxl := hg.2
  obtain ⟨ks, hb⟩ : ∃ ks, KBw.bInts (encB x) = ks := ⟨_, rfl⟩
  rw [hb] at hz0 hzl
  k_dflt (refine' premC_of ?k6 ?hb ?_; (case k6 => (with_unfolding_all rfl)); (case hb => (with_unfolding_all rfl)); k_whole)
  k_fill
  intro B F X N T hd hu
  (try dsimp only)
  k_steps
  k_dflt (refine' forC_rows (p := p) (rest := rest) (k := k) ?hh ?F ?N ?hs ?hp ?turn ?done; (case hh => rfl); (case F => k_asm); (case N => k_asm))
  (case hs => walk_at "nz sub")
  (case hp => assumption)
  case turn =>
    intro i v o9 vr vn I oi s' hxi hP off F1 N1 hS
    have hx2 := hxi
    rw [List.getElem?_toArray] at hx2
    have hget := fun h => BytesAre.get (nss := names ks) h hx2
    have hi := (List.getElem?_eq_some_iff.mp hx2).1
    have hgl := fun h => Nat.lt_of_lt_of_eq hi (BytesAre.length (ns := names ks) h)
    obtain ⟨b2, t2, ns, rfl, hbn, hm⟩ := hget (by assumption)
    obtain ⟨n14, nin⟩ := (pst_names ks _).1 ns hm
    have nz : ∀ j ∈ ns, j ≠ 0 := fun j hj => hz0 j (nin j hj)
    have o1 : (_ : Nat) ≠ I := off _ (.head _)
    have o2 : (_ : Nat) ≠ I := off _ (.tail _ (.head _))
    dsimp only at o1 o2
    have hii : i < 2 * n + 1 := by
      have h1 := hgl (by assumption)
      have h2 := (pst_small ks (ks.length + 1)).1
      unfold names at h1
      omega
    have o3 : ∀ q ∈ rest, q.1 ≠ I := fun q hq => off q (.tail _ (.tail _ hq))
    clear hget hgl hxi hx2 off
    k_steps
    all_goals first
      | (exfalso; (rename (_ : Int) ≠ 16 => q); exact q (by omega))
      | (exfalso; (rename List.getD _ _ _ + _ ≠ _ => q); exact q (by (show (rowL _ _).getD 0 0 + 256 * (rowL _ _).getD 1 0 = _); rw [rowL_0 n14, rowL_1 n14]; omega))
      | (exfalso; (rename halfI _ _ ≠ _ => q); exact q (rowL_half n14 (by omega) (by omega)))
      | (exfalso; (rename ((_ : List UInt8) != _) = true => q); exact ne_false (by assumption) (by assumption) (pick2 n14) q)
      | (exfalso; (rename ((_ : List UInt8) != _) = true => q); exact ne_false (by assumption) (by assumption) (rowL_name n14 nz) q)
      | (exfalso; (rename ((_ : List UInt8) != _) = true => q); exact ne_false (by assumption) (by assumption) (clip_take _ 14).symm q)
      | exact rows_turn (by assumption) (by k_asm) (by k_asm) o1 o2 o3 (Same.trans hS ⟨rfl, rfl, rfl⟩)
  case done =>
    intro o9 v vr vn s' hP F1 N1 hS
    have hle : ∀ vs, BytesAre vs (names ks) → vs.toArray.size ≤ 2 * n + 1 := fun vs h => by
      have h1 := h.length
      have h2 := (pst_small ks (ks.length + 1)).1
      unfold names at h1
      rw [List.size_toArray]
      omega
    k_steps
    walk_at "nz out"
    case P => exact ⟨congrArg Value.bool (eq_true8 (b := #[97, 98]) (by assumption) rfl (by decide +kernel)), _, IsPool.le hP (Nat.add_le_add_left (hle _ (by assumption)) k), rfl⟩
    case N => walk_at "nz news"
open PrH in
theorem PrH.fin (hr : ∀ q ∈ rest, q.1 ≠ p) (hp : IsPool o k) (hg : GoodS n x) (hn : n ≤ 200) (hk : k + 2 * n + 1 < 990) : CtrC w 231 [.ref p, .str x t] 5 60 ((p, o) :: rest) (fun r l => r = .bool true ∧ ∃ o', IsPool o' (k + 2 * n + 1) ∧ l = (p, o') :: rest) := by
  have h : ∀ y, PremC w 231 [.ref p, .str x t] 5 60 ((p, o) :: rest) (fun r l => r = .bool true ∧ ∃ o', IsPool o' (k + 2 * n + 1) ∧ l = (p, o') :: rest) y := henk (PrH.main hr hp hg hn hk)
  k_dflt (refine' ctrC_def (binds := [(Str.ofString "pool", .ref p), (Str.ofString "path", .str x t)]) ?k6 ?k7 ?k9 ?kB ?c2 ?c3 ?c4 ?c5 ?_; (case k6 => (with_unfolding_all rfl)); (case k7 => (with_unfolding_all rfl)); (case k9 => exact rfl); (case kB => exact locs rfl); (case c2 => exact rfl); (case c3 => exact rfl); (case c4 => exact rfl); (case c5 => decide); k_whole)
  intro mean mg mb dp un gd env outer base g L s B F X N T hd hu
  (with_unfolding_all refine' h ⟨mean, mg, mb, dp, un, gd, env, outer, base, g, L, s⟩ _ _ _ _ _ _ _ _ _ _ _ _ _ _ _ ?k6 ?zB ?zF ?zX ?zN ?zT ?zhd ?zhu)
  (case k6 => with_unfolding_all rfl)
  (case zB => with_unfolding_all exact B)
  (case zF => with_unfolding_all exact F)
  (case zX => with_unfolding_all exact X)
  (case zN => with_unfolding_all exact N)
  (case zT => with_unfolding_all exact T)
  (case zhd => with_unfolding_all exact hd)
  (case zhu => with_unfolding_all exact hu)
theorem c_path_right (w : World) (p : Addr) (o : Obj) (k : Nat) (n : Nat) (x : Str) (t : Tok) (rest : Led) (hr : ∀ q ∈ rest, q.1 ≠ p) (hp : IsPool o k) (hg : GoodS n x) (hn : n ≤ 200) (hk : k + 2 * n + 1 < 990) : CtrC w 231 [.ref p, .str x t] 5 60 ((p, o) :: rest) (fun r l => r = .bool true ∧ ∃ o', IsPool o' (k + 2 * n + 1) ∧ l = (p, o') :: rest) := by
  refine henk (P := fun y => PrH.SS y.1 y.2.1 y.2.2.1 y.2.2.2.1 y.2.2.2.2.1 y.2.2.2.2.2.1 y.2.2.2.2.2.2.1 y.2.2.2.2.2.2.2) ?_ (w, p, o, k, n, x, t, rest) hr hp hg hn hk
  intro hr hp hg hn hk
  with_unfolding_all exact PrH.fin hr hp hg hn hk
end
section
local macro_rules | `(tactic| walk_at $s:str) => `(tactic| k_extra $(Lean.Syntax.mkStrLit ("71 " ++ s.getString)))
local macro_rules | `(tactic| walk_at "nz pad") => `(tactic| skip)
theorem off_NzC2 : True := by
  w_top off
  trivial
open PySem PySem.W PySem.Calls PyProof.Rows
theorem kw0_NzC2 : True := by
  k_with "71 nz pq" => k_extra "L0"
  k_with "71 nz pn" => k_extra "L1"
  k_with "71 nz pi" => k_extra "L2"
  k_with "71 nz pr" => k_extra "L3"
  k_with "71 nz oo" => k_extra "L4"
  k_with "71 nz zz" => k_extra "L5"
  k_with "71 nz om" => k_extra "L6"
  k_with "71 nz enter" => k_extra "L7"
  k_with "71 nz intro" => k_extra "L8"
  k_with "71 nz go" => k_extra "L9"
  k_with "71 nz end" => k_extra "L10"
  k_with "71 subscriptTail" => k_extra "L11"
  k_with "71 setItem ref int" => k_extra "L12"
  k_with "71 nz side" => k_extra "L13"
  k_with "71 nz pick" => k_extra "L14"
  k_with "71 nz sub" => k_extra "L15"
  k_with "71 nz news" => k_extra "L16"
  k_with "71 nz same" => k_extra "L17"
  k_with "71 nz out" => k_extra "L18"
  k_with "71 nz len" => k_extra "L19"
  k_with "71 getMethod str" => k_extra "L30"
  k_with "71 call builtin:str.encode" => k_extra "L31"
  k_with "71 call type:bytes" => k_extra "L32"
  k_with "71 call type:bytes" => k_extra "L33"
  k_with "71 call type:bytes" => k_extra "L34"
  k_with "71 call builtin:isinstance" => k_extra "L35"
  k_with "71 nz size" => k_extra "L36"
  trivial
theorem pow24 {prog : Program} {w : World} {A : Around} {E : Value → Shared → Prop} {s : Shared} {t u : Tok} {Q : Value → Shared → Prop} (h : Q (.int 16777216 s.toks) { s with toks := s.toks + 1 }) : wpAny (model prog w) A (binaryOp .Pow (.int 2 t) (.int 24 u)) Q E s :=
  pow_int_small (by decide) (by decide) (by decide) h
theorem kw1_NzC2 : True := by
  k_with "71 binaryOp Pow int int" => k_extra "L159"
  trivial
theorem due0 {v : Int} (h0 : 0 ≤ v) (h1 : v < 4294967296) : putWord [9, 9, 9, 9, 9, 9, 9, 9, 9] 0 v = [v % 256, v / 256 % 256, v / 65536 % 256, v / 16777216, 9, 9, 9, 9, 9] := by
  show [v % 65536 % 256, v % 65536 / 256 % 256, v / 65536 % 65536 % 256, v / 65536 % 65536 / 256 % 256, 9, 9, 9, 9, 9] = _
  rw [show v % 65536 % 256 = v % 256 by omega, show v % 65536 / 256 % 256 = v / 256 % 256 by omega, show v / 65536 % 65536 % 256 = v / 65536 % 256 by omega, show v / 65536 % 65536 / 256 % 256 = v / 16777216 by omega]
theorem dua0 {v : Int} (h0 : 0 ≤ v) (h1 : v < 4294967296) : putHalf (putWord [9, 9, 9, 9, 9, 9, 9, 9, 9] 0 v) 0 258 = [2, 1, v / 65536 % 256, v / 16777216, 9, 9, 9, 9, 9] := by
  rw [due0 h0 h1]; rfl
theorem due1 {v : Int} (h0 : 0 ≤ v) (h1 : v < 4294967296) : putWord [9, 9, 9, 9, 9, 9, 9, 9, 9] 1 v = [9, v % 256, v / 256 % 256, v / 65536 % 256, v / 16777216, 9, 9, 9, 9] := by
  show [9, v % 65536 % 256, v % 65536 / 256 % 256, v / 65536 % 65536 % 256, v / 65536 % 65536 / 256 % 256, 9, 9, 9, 9] = _
  rw [show v % 65536 % 256 = v % 256 by omega, show v % 65536 / 256 % 256 = v / 256 % 256 by omega, show v / 65536 % 65536 % 256 = v / 65536 % 256 by omega, show v / 65536 % 65536 / 256 % 256 = v / 16777216 by omega]
theorem dua1 {v : Int} (h0 : 0 ≤ v) (h1 : v < 4294967296) : putHalf (putWord [9, 9, 9, 9, 9, 9, 9, 9, 9] 1 v) 1 258 = [9, 2, 1, v / 65536 % 256, v / 16777216, 9, 9, 9, 9] := by
  rw [due1 h0 h1]; rfl
theorem due2 {v : Int} (h0 : 0 ≤ v) (h1 : v < 4294967296) : putWord [9, 9, 9, 9, 9, 9, 9, 9, 9] 2 v = [9, 9, v % 256, v / 256 % 256, v / 65536 % 256, v / 16777216, 9, 9, 9] := by
  show [9, 9, v % 65536 % 256, v % 65536 / 256 % 256, v / 65536 % 65536 % 256, v / 65536 % 65536 / 256 % 256, 9, 9, 9] = _
  rw [show v % 65536 % 256 = v % 256 by omega, show v % 65536 / 256 % 256 = v / 256 % 256 by omega, show v / 65536 % 65536 % 256 = v / 65536 % 256 by omega, show v / 65536 % 65536 / 256 % 256 = v / 16777216 by omega]
theorem dua2 {v : Int} (h0 : 0 ≤ v) (h1 : v < 4294967296) : putHalf (putWord [9, 9, 9, 9, 9, 9, 9, 9, 9] 2 v) 2 258 = [9, 9, 2, 1, v / 65536 % 256, v / 16777216, 9, 9, 9] := by
  rw [due2 h0 h1]; rfl
theorem due3 {v : Int} (h0 : 0 ≤ v) (h1 : v < 4294967296) : putWord [9, 9, 9, 9, 9, 9, 9, 9, 9] 3 v = [9, 9, 9, v % 256, v / 256 % 256, v / 65536 % 256, v / 16777216, 9, 9] := by
  show [9, 9, 9, v % 65536 % 256, v % 65536 / 256 % 256, v / 65536 % 65536 % 256, v / 65536 % 65536 / 256 % 256, 9, 9] = _
  rw [show v % 65536 % 256 = v % 256 by omega, show v % 65536 / 256 % 256 = v / 256 % 256 by omega, show v / 65536 % 65536 % 256 = v / 65536 % 256 by omega, show v / 65536 % 65536 / 256 % 256 = v / 16777216 by omega]
theorem dua3 {v : Int} (h0 : 0 ≤ v) (h1 : v < 4294967296) : putHalf (putWord [9, 9, 9, 9, 9, 9, 9, 9, 9] 3 v) 3 258 = [9, 9, 9, 2, 1, v / 65536 % 256, v / 16777216, 9, 9] := by
  rw [due3 h0 h1]; rfl
theorem due4 {v : Int} (h0 : 0 ≤ v) (h1 : v < 4294967296) : putWord [9, 9, 9, 9, 9, 9, 9, 9, 9] 4 v = [9, 9, 9, 9, v % 256, v / 256 % 256, v / 65536 % 256, v / 16777216, 9] := by
  show [9, 9, 9, 9, v % 65536 % 256, v % 65536 / 256 % 256, v / 65536 % 65536 % 256, v / 65536 % 65536 / 256 % 256, 9] = _
  rw [show v % 65536 % 256 = v % 256 by omega, show v % 65536 / 256 % 256 = v / 256 % 256 by omega, show v / 65536 % 65536 % 256 = v / 65536 % 256 by omega, show v / 65536 % 65536 / 256 % 256 = v / 16777216 by omega]
theorem dua4 {v : Int} (h0 : 0 ≤ v) (h1 : v < 4294967296) : putHalf (putWord [9, 9, 9, 9, 9, 9, 9, 9, 9] 4 v) 4 258 = [9, 9, 9, 9, 2, 1, v / 65536 % 256, v / 16777216, 9] := by
  rw [due4 h0 h1]; rfl
theorem half_put_word {ks : List Int} {i : Nat} {v : Int} (h : i + 3 < ks.length) (h0 : 0 ≤ v) (h1 : v < 4294967296) : halfI (putWord ks i v) (i + 2) = v / 65536 := by
  unfold halfI
  simp only [getD_putWord h]
  have e4 : ¬ i + 2 = i + 3 := by omega
  simp only [if_neg e4, if_true]
  omega
theorem half_put_at {ks : List Int} {i j : Nat} {v : Int} (hj : j = i + 2) (h : i + 3 < ks.length) (h0 : 0 ≤ v) (h1 : v < 4294967296) : halfI (putWord ks i v) j = v / 65536 := by
  subst hj; exact half_put_word h h0 h1
theorem word_put_half {ks : List Int} {i : Nat} {v : Int} (h : i + 3 < ks.length) (h0 : 0 ≤ v) (h1 : v < 4294967296) : wordI (putHalf (putWord ks i v) i 258) i = v / 65536 * 65536 + 258 := by
  unfold wordI halfI
  simp only [getD_putHalf (show i + 1 < (putWord ks i v).length by rw [putWord_length]; omega), getD_putWord h]
  have e1 : ¬ i = i + 1 := by omega
  have e2 : ¬ i + 2 = i + 1 := by omega
  have e3 : ¬ i + 2 = i := by omega
  have e4 : ¬ i + 2 = i + 3 := by omega
  have e5 : ¬ i + 2 + 1 = i + 1 := by omega
  have e6 : ¬ i + 2 + 1 = i := by omega
  simp only [if_neg e1, if_neg e2, if_neg e3, if_neg e4, if_neg e5, if_neg e6, if_true]
  omega
theorem five {d : Int} (h0 : 0 ≤ d) (h1 : d < 5) : d = 0 ∨ d = 1 ∨ d = 2 ∨ d = 3 ∨ d = 4 := by omega
abbrev dueL (a v : Int) : List Int := (List.replicate a.toNat [9]).flatten ++ [v % 256, v / 256 % 256, v / 65536 % 256, v / 16777216] ++ (List.replicate (5 - a).toNat [9]).flatten
theorem dueG {a v : Int} (a0 : 0 ≤ a) (a5 : a < 5) (h0 : 0 ≤ v) (h1 : v < 4294967296) : putWord [9, 9, 9, 9, 9, 9, 9, 9, 9] a.toNat v = dueL a v := by
  rcases five a0 a5 with e | e | e | e | e <;> subst e
  · exact due0 h0 h1
  · exact due1 h0 h1
  · exact due2 h0 h1
  · exact due3 h0 h1
  · exact due4 h0 h1
theorem duaG {a v : Int} (a0 : 0 ≤ a) (a5 : a < 5) (h0 : 0 ≤ v) (h1 : v < 4294967296) : putHalf (putWord [9, 9, 9, 9, 9, 9, 9, 9, 9] a.toNat v) a.toNat 258 = List.take a.toNat (dueL a v) ++ [2, 1] ++ List.drop (a + 2).toNat (dueL a v) := by
  rcases five a0 a5 with e | e | e | e | e <;> subst e
  · exact dua0 h0 h1
  · exact dua1 h0 h1
  · exact dua2 h0 h1
  · exact dua3 h0 h1
  · exact dua4 h0 h1
theorem kw2_NzC2 : True := by
  k_with "71 binaryOp FloorDiv int int" => k_extra "L24"
  k_with "71 binaryOp Mod int int" => k_extra "L25"
  k_with "71 subscriptTail Name Constant ref int" => k_extra "L26"
  k_with "71 subscriptTail Name Constant ref int" => k_extra "L27"
  k_with "71 getItem ref int" => k_extra "L28"
  k_with "71 setItem ref int" => k_extra "L29"
  k_with "71 nz enterC" => k_extra "L40"
  k_with "71 nz introC" => k_extra "L41"
  k_with "71 nz goC" => k_extra "L42"
  k_with "71 nz steps" => k_extra "L43"
  k_with "71 last wpC" => k_extra "L44"
  k_with "71 wpC" => k_extra "L45"
  k_with "71 wpC" => k_extra "L46"
  k_with "71 wpC" => k_extra "L47"
  k_with "71 wpC" => k_extra "L48"
  k_with "71 wpC" => k_extra "L49"
  k_with "71 wpC" => k_extra "L50"
  k_with "71 wpC" => k_extra "L51"
  k_with "71 wpC" => k_extra "L52"
  k_with "71 wpC" => k_extra "L53"
  k_with "71 wpC" => k_extra "L54"
  k_with "71 wpC" => k_extra "L55"
  k_with "71 wpC" => k_extra "L56"
  k_with "71 wpC" => k_extra "L57"
  k_with "71 wpC" => k_extra "L58"
  k_with "71 wpC" => k_extra "L59"
  k_with "71 wpC" => k_extra "L60"
  k_with "71 wpC" => k_extra "L61"
  k_with "71 getMethod ref" => k_extra "L62"
  k_with "71 getMethod str" => k_extra "L30"
  k_with "71 call builtin:str.encode" => k_extra "L31"
  k_with "71 call type:bytes" => k_extra "L32"
  k_with "71 call type:bytes" => k_extra "L33"
  k_with "71 call type:bytes" => k_extra "L34"
  k_with "71 call builtin:isinstance" => k_extra "L35"
  k_with "71 call builtin:len" => k_extra "L65"
  k_with "71 wpC" => k_extra "L68"
  k_with "71 wpC" => k_extra "L69"
  k_with "71 call type:list" => k_extra "L160"
  k_with "71 isTrue BoolOp" => k_extra "L105"
  k_with "71 wpC" => k_extra "L161"
  k_with "71 call ref" => k_extra "L123"
  k_with "71 call ref" => k_extra "L102"
  trivial
theorem q_word {w : World} {a : Addr} {b : Array UInt8} {ks : List Int} {k : Int} {tk : Tok} (hb : KBw.bInts b = ks) (h0 : 0 ≤ k) (h1 : k + 3 < ks.length) (h2 : ks.length ≤ 2000) :
    CtrR w 73 [.ref a, .int k tk] 2 16 a (baObj b) (fun r => (∃ t, r = .int (wordI ks k.toNat) t) ∧ 0 ≤ wordI ks k.toNat ∧ wordI ks k.toNat < 4294967296) := fun rest => (c_word_a w a b ks k tk rest hb h0 h1 h2).mono fun r l ⟨p1, p2, p3, p4⟩ => ⟨⟨p1, p2, p3⟩, p4⟩
theorem q_half {w : World} {a : Addr} {b : Array UInt8} {ks : List Int} {k : Int} {tk : Tok} (hb : KBw.bInts b = ks) (h0 : 0 ≤ k) (h1 : k + 1 < ks.length) (h2 : ks.length ≤ 2000) :
    CtrR w 66 [.ref a, .int k tk] 1 8 a (baObj b) (fun r => (∃ t, r = .int (halfI ks k.toNat) t) ∧ 0 ≤ halfI ks k.toNat ∧ halfI ks k.toNat < 65536) := fun rest => (c_half_a w a b ks k tk rest hb h0 h1 h2).mono fun r l ⟨p1, p2, p3, p4⟩ => ⟨⟨p1, p2, p3⟩, p4⟩
section
variable {prog : Program} {w : World} {A : Around} {E : Value → Shared → Prop} {s : Shared} {h₀ : Heap} {L l : Addr} {m : Str → Option Value} {news : List (Addr × Obj)} {vs : List Value} {ns : List Int} {y : Int} {t : Tok} {value : Expr} {slice : Expr} {Q : Value → Shared → Prop}
theorem kw3_NzC2 : True := by
  k_with "71 call ref" => k_extra "L162"
  k_with "71 call ref" => k_extra "L163"
  k_with "71 call ref" => k_extra "L164"
  k_with "71 call ref" => k_extra "L165"
  k_with "71 eval Name" => k_extra "L166"
  k_with "71 eval Name" => k_extra "L167"
  k_with "71 nz at9" => k_extra "L168"
  trivial
theorem slice_upto (F : Fr h₀ L s.heap m) (N : News h₀ L s.heap news) (hl : s.heap.IsList l vs.toArray) (hi : IntsAre vs ns) (h0 : 0 ≤ y) (hz : ns.length ≤ sizeLine)
    (h : ∀ D ws h', Fr h₀ L h' m → News h₀ L h' ((D, listOf (List.toArray ws) 0) :: news) → (∀ p ∈ news, p.1 < D) → IntsAre ws (ns.take y.toNat) → Q (.ref D) { s with heap := h' })
    (hs : subscripted slice false (.ref l) (.ref s.heap.objs.size) = operate [.ref s.heap.objs.size, .ref l] (getItem (.ref l) (.ref s.heap.objs.size))) (ht : ∀ r, letTemporaryGo value (.ref l) r = pure ()) :
    wpAny (model prog w) A (subscriptTail value slice (.ref l) (.ref s.heap.objs.size)) Q E { s with heap := s.heap.push { cls := .type "slice", data := .fields #[.none, .int y t, .none] } } :=
  kmk_slice_ints F N hl IsPart.none (IsPart.int _ _) hi (kmk_upto hi h0) rfl (fun D ws h' F' N' l1 hI _ _ => h D ws h' F' N' l1 hI) hs ht (kmk_sz hi hz)
theorem slice_from (F : Fr h₀ L s.heap m) (N : News h₀ L s.heap news) (hl : s.heap.IsList l vs.toArray) (hi : IntsAre vs ns) (h0 : 0 ≤ y) (hz : ns.length ≤ sizeLine)
    (h : ∀ D ws h', Fr h₀ L h' m → News h₀ L h' ((D, listOf (List.toArray ws) 0) :: news) → (∀ p ∈ news, p.1 < D) → IntsAre ws (ns.drop y.toNat) → Q (.ref D) { s with heap := h' })
    (hs : subscripted slice false (.ref l) (.ref s.heap.objs.size) = operate [.ref s.heap.objs.size, .ref l] (getItem (.ref l) (.ref s.heap.objs.size))) (ht : ∀ r, letTemporaryGo value (.ref l) r = pure ()) :
    wpAny (model prog w) A (subscriptTail value slice (.ref l) (.ref s.heap.objs.size)) Q E { s with heap := s.heap.push { cls := .type "slice", data := .fields #[.int y t, .none, .none] } } :=
  kmk_slice_ints F N hl (IsPart.int _ _) IsPart.none hi (kmk_from hi h0) rfl (fun D ws h' F' N' l1 hI _ _ => h D ws h' F' N' l1 hI) hs ht (kmk_sz hi hz)
end
theorem dueL_room {a v : Int} (a0 : 0 ≤ a) (a5 : a < 5) : (dueL a v).length ≤ sizeLine := by
  rcases five a0 a5 with e | e | e | e | e <;> subst e <;> exact Nat.le_of_ble_eq_true rfl
theorem dz1 {a v : Int} (a0 : 0 ≤ a) (a5 : a < 5) : (List.replicate a.toNat [(9 : Int)]).flatten.length + [v % 256, v / 256 % 256, v / 65536 % 256, v / 16777216].length ≤ sizeLine := by
  rcases five a0 a5 with e | e | e | e | e <;> subst e <;> exact Nat.le_of_ble_eq_true rfl
theorem dz2 {a v : Int} (a0 : 0 ≤ a) (a5 : a < 5) : ((List.replicate a.toNat [(9 : Int)]).flatten ++ [v % 256, v / 256 % 256, v / 65536 % 256, v / 16777216]).length + (List.replicate (5 - a).toNat [(9 : Int)]).flatten.length ≤ sizeLine := by
  rcases five a0 a5 with e | e | e | e | e <;> subst e <;> exact Nat.le_of_ble_eq_true rfl
theorem dz3 {a v : Int} (a0 : 0 ≤ a) (a5 : a < 5) : (List.take a.toNat (dueL a v)).length + [(2 : Int), 1].length ≤ sizeLine := by
  rcases five a0 a5 with e | e | e | e | e <;> subst e <;> exact Nat.le_of_ble_eq_true rfl
theorem dz4 {a v : Int} (a0 : 0 ≤ a) (a5 : a < 5) : (List.take a.toNat (dueL a v) ++ [2, 1]).length + (List.drop (a + 2).toNat (dueL a v)).length ≤ sizeLine := by
  rcases five a0 a5 with e | e | e | e | e <;> subst e <;> exact Nat.le_of_ble_eq_true rfl
theorem kw4_NzC2 : True := by
  k_with "71 binaryOp Add ref ref" => k_extra "L169"
  trivial
theorem drop62 {g h : Heap} {L : Addr} {x y1 y2 y3 y4 y5 y6 r z1 z2 : Addr × Obj} {t : Led} (N : News g L h (x :: y1 :: y2 :: y3 :: y4 :: y5 :: y6 :: r :: z1 :: z2 :: t)) : News g L h (x :: r :: t) := fun p hp => N p (by
  rcases List.mem_cons.mp hp with rfl | hp
  · exact .head _
  · rcases List.mem_cons.mp hp with rfl | hp
    · exact .tail _ (.tail _ (.tail _ (.tail _ (.tail _ (.tail _ (.tail _ (.head _)))))))
    · exact .tail _ (.tail _ (.tail _ (.tail _ (.tail _ (.tail _ (.tail _ (.tail _ (.tail _ (.tail _ hp))))))))))
theorem add_due {prog : Program} {w : World} {A : Around} {E : Value → Shared → Prop} {s : Shared} {h₀ : Heap} {L d1 d2 : Addr} {m : Str → Option Value} {y1 y2 y3 y4 y5 y6 r z1 z2 : Addr × Obj} {news : Led} {vs ws : List Value} {a v : Int} {Q : Value → Shared → Prop}
    (F : Fr h₀ L s.heap m) (N : News h₀ L s.heap (y1 :: y2 :: y3 :: y4 :: y5 :: y6 :: r :: z1 :: z2 :: news)) (ha : s.heap.IsList d1 vs.toArray) (hb : s.heap.IsList d2 ws.toArray)
    (hi : IntsAre vs ((List.replicate a.toNat [9]).flatten ++ [v % 256, v / 256 % 256, v / 65536 % 256, v / 16777216])) (hj : IntsAre ws (List.replicate (5 - a).toNat [9]).flatten) (a0 : 0 ≤ a) (a5 : a < 5)
    (h : ∀ D us h', Fr h₀ L h' m → News h₀ L h' ((D, listOf (List.toArray us) 0) :: r :: news) → (∀ p ∈ r :: news, p.1 < D) → IntsAre us (dueL a v) → Q (.ref D) { s with heap := h' }) :
    wpAny (model prog w) A (binaryOp .Add (.ref d1) (.ref d2)) Q E s :=
  kmk_add_ints F N ha hb hi hj (fun D us h' F' N' lt hI => h D us h' F' (drop62 N') (fun p hp => lt p (by
    rcases List.mem_cons.mp hp with rfl | hp
    · exact .tail _ (.tail _ (.tail _ (.tail _ (.tail _ (.tail _ (.head _))))))
    · exact .tail _ (.tail _ (.tail _ (.tail _ (.tail _ (.tail _ (.tail _ (.tail _ (.tail _ hp)))))))))) hI) (dz2 a0 a5)
theorem kw5_NzC2 : True := by
  k_with "71 binaryOp Add ref ref" => k_extra "L170"
  k_with "71 subscriptTail Name Slice ref ref" => k_extra "L171"
  trivial
namespace WrH
def SS (w : World) (p : Addr) (o : Obj) (k : Nat) (news : Led) : Prop := (∀ q ∈ news, q.1 ≠ p) → IsPool o k → k < 990 → CtrC w 238 [.ref p] 4 120 ((p, o) :: news) (fun r l => r = .bool true ∧ ∃ o', IsPool o' (k + 2) ∧ l = (p, o') :: news)
noncomputable def kk : World × Addr × Obj × Nat × Led := Classical.epsilon fun y => ¬ SS y.1 y.2.1 y.2.2.1 y.2.2.2.1 y.2.2.2.2
@[irreducible] noncomputable def w : World := kk.1
@[irreducible] noncomputable def p : Addr := kk.2.1
@[irreducible] noncomputable def o : Obj := kk.2.2.1
@[irreducible] noncomputable def k : Nat := kk.2.2.2.1
@[irreducible] noncomputable def news : Led := kk.2.2.2.2
noncomputable def yy : Fm := Classical.epsilon fun y => ¬ PremC w 238 [.ref p] 4 120 ((p, o) :: news) (fun r l => r = .bool true ∧ ∃ o', IsPool o' (k + 2) ∧ l = (p, o') :: news) y
end WrH
open WrH in
theorem WrH.main (hr : ∀ q ∈ news, q.1 ≠ p) (hp : IsPool o k) (hk : k < 990) : PremC w 238 [.ref p] 4 120 ((p, o) :: news) (fun r l => r = .bool true ∧ ∃ o', IsPool o' (k + 2) ∧ l = (p, o') :: news) yy := by
  k_dflt (refine' premC_of ?k6 ?hb ?_; (case k6 => (with_unfolding_all rfl)); (case hb => (with_unfolding_all rfl)); k_whole)
  k_fill
  intro B F X N T hd hu
  (try dsimp only)
  k_steps
  all_goals first
    | (exfalso; (rename ¬ (putWord _ _ _ = _) => q); exact q (dueG (by omega) (by omega) (by omega) (by omega)))
    | (exfalso; (rename ¬ (putHalf _ _ _ = _) => q); exact q (duaG (by omega) (by omega) (by omega) (by omega)))
    | (exfalso; (rename wordI _ _ ≠ _ => q); exact q (word_put (by walk_at "nz at9") (by omega) (by omega)))
    | (exfalso; (rename halfI _ _ ≠ _ => q); exact q (half_put_at (by omega) (by walk_at "nz at9") (by omega) (by omega)))
    | (walk_at "nz out"; (case P => exact ⟨congrArg Value.bool (beq_iff_eq.mpr (word_put_half (by walk_at "nz at9") (by omega) (by omega))), _, by assumption, rfl⟩); (case N => walk_at "nz news"))
open WrH in
theorem WrH.fin (hr : ∀ q ∈ news, q.1 ≠ p) (hp : IsPool o k) (hk : k < 990) : CtrC w 238 [.ref p] 4 120 ((p, o) :: news) (fun r l => r = .bool true ∧ ∃ o', IsPool o' (k + 2) ∧ l = (p, o') :: news) := by
  have h : ∀ y, PremC w 238 [.ref p] 4 120 ((p, o) :: news) (fun r l => r = .bool true ∧ ∃ o', IsPool o' (k + 2) ∧ l = (p, o') :: news) y := henk (WrH.main hr hp hk)
  k_dflt (refine' ctrC_def (binds := [(Str.ofString "pool", .ref p)]) ?k6 ?k7 ?k9 ?kB ?c2 ?c3 ?c4 ?c5 ?_; (case k6 => (with_unfolding_all rfl)); (case k7 => (with_unfolding_all rfl)); (case k9 => exact rfl); (case kB => exact locs rfl); (case c2 => exact rfl); (case c3 => exact rfl); (case c4 => exact rfl); (case c5 => decide); k_whole)
  intro mean mg mb dp un gd env outer base g L s B F X N T hd hu
  (with_unfolding_all refine' h ⟨mean, mg, mb, dp, un, gd, env, outer, base, g, L, s⟩ _ _ _ _ _ _ _ _ _ _ _ _ _ _ _ ?k6 ?zB ?zF ?zX ?zN ?zT ?zhd ?zhu)
  (case k6 => with_unfolding_all rfl)
  (case zB => with_unfolding_all exact B)
  (case zF => with_unfolding_all exact F)
  (case zX => with_unfolding_all exact X)
  (case zN => with_unfolding_all exact N)
  (case zT => with_unfolding_all exact T)
  (case zhd => with_unfolding_all exact hd)
  (case zhu => with_unfolding_all exact hu)
theorem c_words_right (w : World) (p : Addr) (o : Obj) (k : Nat) (news : Led) (hr : ∀ q ∈ news, q.1 ≠ p) (hp : IsPool o k) (hk : k < 990) : CtrC w 238 [.ref p] 4 120 ((p, o) :: news) (fun r l => r = .bool true ∧ ∃ o', IsPool o' (k + 2) ∧ l = (p, o') :: news) := by
  refine henk (P := fun y => WrH.SS y.1 y.2.1 y.2.2.1 y.2.2.2.1 y.2.2.2.2) ?_ (w, p, o, k, news) hr hp hk
  intro hr hp hk
  with_unfolding_all exact WrH.fin hr hp hk
end
section
theorem off_NzJ0 : True := by
  w_top off
  trivial
open PySem PySem.W PySem.Calls PyProof.Rows
def nthV : List Value → Nat → Option Value
  | [], _ => none
  | v :: _, 0 => some v
  | _ :: r, n + 1 => nthV r n
theorem nthV_eq : ∀ (l : List Value) (n : Nat), nthV l n = l[n]?
  | [], _ => by simp [nthV]
  | v :: _, 0 => rfl
  | _ :: r, n + 1 => by rw [nthV, nthV_eq r n]; simp
theorem rowI16 (e : Int) : rowI e = 16 + 4 * e := by show 12 + 4 * (e + 1) = _; omega
theorem nzb1 (x y e : Int) : (!(x * rowI e == x * (16 + 4 * e) && y * rowI e == y * (16 + 4 * e))) = false := by rw [rowI16]; simp
theorem nzb2 {r R k l X : Int} (hr : 0 < r) (hR : 0 < R) : ((X + k / r == X + l / r && k % r * R == l % r * R) != (k == l)) = false := by
  by_cases h : k = l
  · subst h; simp
  · have e2 : (k == l) = false := by simpa using h
    rw [e2]
    by_cases h1 : k / r = l / r
    · by_cases h2 : k % r * R = l % r * R
      · exact absurd (place_inj hr hR h1 h2) h
      · simp [h2]
    · have : ¬ (X + k / r = X + l / r) := fun q => h1 (by omega)
      simp [this]
theorem nzp3 {a c d e k : Int} (hr : 0 < rowsI a e) (h : k < c) : 2 + d + k / rowsI a e < bitI a c d e := by
  have := ceil_lt hr h
  show _ < 2 + d + (c + rowsI a e - 1) / rowsI a e
  omega
theorem nzp4 {a e k : Int} (ha : 0 ≤ a) (hr : 0 < rowsI a e) (hR : 0 < rowI e) : k % rowsI a e * rowI e + 16 + 4 * e ≤ a := by
  have h := place_fits (k := k) hr hR (Int.ediv_mul_le a (Int.ne_of_gt hR))
  rw [rowI16] at h ⊢
  omega
theorem nzb5 (X a k l u v : Int) (h8 : k / (8 * a) = k / 8 / a) (h9 : l / (8 * a) = l / 8 / a) : (!(X + k / 8 / a == X + k / (8 * a) && (k / 8 % a == k / 8 % a && u == u) && (X + l / 8 / a == X + l / (8 * a) && (l / 8 % a == l / 8 % a && v == v)))) = false := by
  rw [h8, h9]; simp
theorem nzb7 (X a k l : Int) (h8 : k / (8 * a) = k / 8 / a) (h9 : l / (8 * a) = l / 8 / a) : (!(X + k / 8 / a == X + k / (8 * a) && X + l / 8 / a == X + l / (8 * a))) = false := by
  rw [h8, h9]; simp
theorem div8 (k a : Int) : k / (8 * a) = k / 8 / a := (Int.ediv_ediv_of_nonneg (by decide : (0 : Int) ≤ 8)).symm
theorem nzp6 {a k l X : Int} (ha : 0 < a) : (X + k / 8 / a == X + l / 8 / a && (k / 8 % a == l / 8 % a && (2 : Int) ^ (k % 8).toNat == 2 ^ (l % 8).toNat)) = (k == l) := by
  by_cases h : k = l
  · subst h; simp
  · have e2 : (k == l) = false := by simpa using h
    rw [e2]
    by_cases h1 : k / 8 / a = l / 8 / a
    · by_cases h2 : k / 8 % a = l / 8 % a
      · by_cases h3 : (2 : Int) ^ (k % 8).toNat = 2 ^ (l % 8).toNat
        · exact absurd (bit_inj ha h1 h2 h3) h
        · simp [h3]
      · simp [h2]
    · have : ¬ (X + k / 8 / a = X + l / 8 / a) := fun q => h1 (by omega)
      simp [this]
theorem nzp7 {a b c d e k : Int} (ha : 0 < a) (h : k < b) : bitI a c d e + k / 8 / a < datI a b c d e := by
  have := bit_low ha h
  show _ < bitI a c d e + (b + 8 * a - 1) / (8 * a)
  omega
theorem nzq6 {a k l X : Int} (ha : 0 < a) : ((X + k / 8 / a == X + l / 8 / a && (k / 8 % a == l / 8 % a && (2 : Int) ^ (k % 8).toNat == 2 ^ (l % 8).toNat)) == (k == l)) = true := by
  rw [nzp6 ha]; simp
section
variable {prog : Program} {w : World} {A : Around} {E : Value → Shared → Prop} {s : Shared}
theorem lit_get {l : Addr} {vs : Array Value} {k : Int} {t : Tok} {v : Value} {Q : Value → Shared → Prop} (hl : s.heap.IsList l vs) (h0 : 0 ≤ k) (h2 : k < 2 ^ 63) (hx : nthV vs.toList k.toNat = some v) (h : Q v s) : wpAny (model prog w) A (getItem (.ref l) (.int k t)) Q E s :=
  wpAny_getItem_list hl h0 h2 (by rw [nthV_eq] at hx; simpa using hx) h
theorem lit_tail {value slice : Expr} {l : Addr} {vs : Array Value} {k : Int} {t : Tok} {v : Value} {Q : Value → Shared → Prop} (hl : s.heap.IsList l vs) (h0 : 0 ≤ k) (h2 : k < 2 ^ 63) (hx : nthV vs.toList k.toNat = some v) (h : Q v s)
    (hs : subscripted slice false (.ref l) (.int k t) = operate [.ref l, .int k t] (getItem (.ref l) (.int k t))) : wpAny (model prog w) A (subscriptTail value slice (.ref l) (.int k t)) Q E s :=
  tail_any hl.typeIs slot_list_getitem.lookup (lit_get hl h0 h2 hx h) hs
theorem truthy_false {b : Bool} {Q : Bool → Shared → Prop} (hb : b = false) (h : Q false s) : wpAny (model prog w) A (truthy (.bool b)) Q E s := by subst hb; exact wpAny_truthy_bool h
theorem truthy_true {b : Bool} {Q : Bool → Shared → Prop} (hb : b = true) (h : Q true s) : wpAny (model prog w) A (truthy (.bool b)) Q E s := by subst hb; exact wpAny_truthy_bool h
theorem pow8 {k : Int} {t u : Tok} {Q : Value → Shared → Prop} (h : Q (.int (2 ^ (k % 8).toNat) s.toks) { s with toks := s.toks + 1 }) : wpAny (model prog w) A (binaryOp .Pow (.int 2 t) (.int (k % 8) u)) Q E s :=
  pow_int_small (Int.emod_nonneg _ (by decide)) (by omega) (by decide) h
theorem compEnd_tup {h₀ : Heap} {L I C D T : Addr} {m : Str → Option Value} {s₁ : Shared} {oI oC oD tup : Obj} {S : List (Addr × Obj) → Prop} {rest : Value → List (Addr × Obj) → Prop} {y : Value} {h' : Heap} {tk : Nat} {news : List (Addr × Obj)} {X : Prop}
    (F : Fr h₀ L h' m) (N : News h₀ L h' ((T, tup) :: (I, oI) :: (C, oC) :: (D, oD) :: news)) (off : LCg.Off3 I C D news) (l : @LT.lt Nat instLTNat I T ∧ @LT.lt Nat instLTNat C T ∧ @LT.lt Nat instLTNat D T ∧ X)
    (hS : S ((T, tup) :: news)) (r : rest y ((T, tup) :: news)) : LCg.CompEnd h₀ L m s₁ I oI C oC D oD S rest y { s₁ with heap := h', toks := tk } :=
  LCg.CompEnd.intro F N ((T, tup) :: news) (fun q hq => by
    rcases List.mem_cons.mp hq with rfl | hq
    · exact .tail _ (.head _)
    · rcases List.mem_cons.mp hq with rfl | hq
      · exact .tail _ (.tail _ (.head _))
      · rcases List.mem_cons.mp hq with rfl | hq
        · exact .tail _ (.tail _ (.tail _ (.head _)))
        · rcases List.mem_cons.mp hq with rfl | hq
          · exact .head _
          · exact .tail _ (.tail _ (.tail _ (.tail _ hq)))) ⟨⟨Nat.ne_of_gt l.1, Nat.ne_of_gt l.2.1, Nat.ne_of_gt l.2.2.1⟩, off⟩ hS r
end
end
section
theorem off_NzL0 : True := by
  w_top off
  trivial
open PySem PySem.W PySem.Calls PyProof.Rows
theorem callW0 {M : Model} {A : Around} {E : Value → Shared → Prop} {s : Shared} {K : Frag} {h₀ : Heap} {L : Addr} {m : Str → Option Value} {f : Value} {first : List Value} {pos : Pos} {env : Env} {Q : Value → Shared → Prop}
    (F : Fr h₀ L s.heap m) (X : K.In h₀) (hk : keepIn K f = true) (h : wpAny M A (call f (first ++ [])) Q E s) : wpAny M A (callWith pos f first (backTo pos (starEach [] env)) []) Q E s :=
  callWith_K0 (X.keeps F.keep) hk h
theorem roomD {A : Around} {env : Env} {d k : Nat} (h : A.depth + d < recursionLimit) (hk : k + 1 ≤ d) : (A.deeper env).depth + k < recursionLimit := by
  rw [depth_deeper]; omega
theorem roomU {A : Around} {env : Env} {d k : Nat} (h : A.units + d < cLine) (hk : k + 3 ≤ d) : (A.deeper env).units + k < cLine := by
  rw [units_deeper]; omega
theorem ne_same {prog : Program} {w : World} {A : Around} {E : Value → Shared → Prop} {s : Shared} {b c : Array UInt8} {ks : List Int} {t u : Tok} {Q : Value → Shared → Prop} (hb : KBw.bInts b = ks) (hc : KBw.bInts c = ks) (h : Q (.bool false) s) :
    wpAny (model prog w) A (compareOp .NotEq (.bytes b t) (.bytes c u)) Q E s := by
  have e : b = c := bInts_inj (hb.trans hc.symm)
  subst e
  refine ne_bytes ?_
  have : (b.toList != b.toList) = false := by simp
  rw [this]
  exact h
theorem octets_rest {a b c d e : Int} {b9 : Array UInt8} {ks : List Int} (hb : KBw.bInts b9 = ks) (hks : pws (wordsI a b c d e) 9 (List.replicate a.toNat 0) = ks) (h36 : 36 ≤ a) :
    KBw.bInts (KBy.picked b9 (some 36) none) = List.replicate (a - 36).toNat 0 := by
  have hl : ks.length = a.toNat := by rw [← hks, pws_length, List.length_replicate]
  rw [KBc.ints_picked hb]
  show List.take (ks.length - clipAt ks.length 36) (List.drop (clipAt ks.length 36) ks) = _
  have e36 : clipAt ks.length 36 = 36 := by
    have := clipAt_nat ks.length 36
    rw [show ((36 : Nat) : Int) = 36 from rfl] at this
    rw [this]
    omega
  rw [e36, List.take_of_length_le (by simp), ← hks, pws_rest _ _ (by omega), show a.toNat - 36 = (a - 36).toNat by omega]
theorem word_room {k : Int} {n : Nat} (h : k < 0 + (((9 - 0 : Int).toNat : Nat) : Int)) (hz : 36 ≤ n) : 4 * k + 3 < n := by
  have : (((9 - 0 : Int).toNat : Nat) : Int) = 9 := rfl
  omega
theorem words_there {a b c d e : Int} {ks : List Int} (hks : pws (wordsI a b c d e) 9 (List.replicate a.toNat 0) = ks) (h36 : 36 ≤ a) (hv : ∀ v ∈ wordsI a b c d e, 0 ≤ v ∧ v < 4294967296) : wordsAt ks = wordsI a b c d e := by
  have key : ∀ j, j < 9 → wordI ks (4 * j) = (wordsI a b c d e).getD j 0 := fun j hj => by
    rw [← hks]
    exact word_pws _ _ hv 9 j (by simp) (by simp; omega) hj
  have k0 := key 0 (by decide)
  have k1 := key 1 (by decide)
  have k2 := key 2 (by decide)
  have k3 := key 3 (by decide)
  have k4 := key 4 (by decide)
  have k5 := key 5 (by decide)
  have k6 := key 6 (by decide)
  have k7 := key 7 (by decide)
  have k8 := key 8 (by decide)
  simp only [wordsAt]
  rw [k0, k1, k2, k3, k4, k5, k6, k7, k8]
  rfl
theorem super_same {P : Params} {a b c d e : Int} {ks : List Int} {D : Obj} (hw : wordsAt ks = wordsI a b c d e) (hz : (ks.length : Int) = a) (hD : IsSuper P ks.length (wordI ks 4) (wordI ks 12) (wordI ks 16) (wordI ks 32) D) : IsSuper P a b c d e D := by
  simp only [wordsAt, wordsI, List.cons.injEq] at hw
  obtain ⟨_, h1, _, h3, h4, _, _, _, h8, _⟩ := hw
  rw [hz, h1, h3, h4, h8] at hD
  exact hD
theorem super_there {a b c d e : Int} {ks : List Int} (hw : wordsAt ks = wordsI a b c d e) (hz : (ks.length : Int) = a) (h36 : 36 ≤ ks.length) (ok : okI a b c d e) : superOk ks := by
  have hw' := hw
  simp only [wordsAt, wordsI, List.cons.injEq] at hw'
  obtain ⟨h0, h1, _, h3, h4, _, _, _, h8, _⟩ := hw'
  refine ⟨h36, h0, ?_, ?_⟩
  · rw [hz, h1, h3, h4, h8]; exact ok
  · rw [hz, h1, h3, h4, h8]; exact hw.symm
theorem short_no {ks : List Int} {P : Prop} (h : superOk ks) (h35 : ks.length < 36) : P := absurd h.1 (Nat.not_le.mpr h35)
theorem bitOr_nat (a b : Nat) : Builtin.bitOr (a : Int) (b : Int) = ((a ||| b : Nat) : Int) := by
  have e1 : Builtin.bitNot (a : Int) = -(a : Int) - 1 := rfl
  have e2 : Builtin.bitNot (b : Int) = -(b : Int) - 1 := rfl
  unfold Builtin.bitOr Builtin.bitAnd
  rw [e1, e2]
  have n1 : decide (0 ≤ -(a : Int) - 1) = false := by simp; omega
  have n2 : decide (0 ≤ -(b : Int) - 1) = false := by simp; omega
  rw [n1, n2]
  dsimp only
  have f1 : Builtin.bitNot (-(a : Int) - 1) = (a : Int) := by show -(-(a : Int) - 1) - 1 = _; omega
  have f2 : Builtin.bitNot (-(b : Int) - 1) = (b : Int) := by show -(-(b : Int) - 1) - 1 = _; omega
  rw [f1, f2]
  show -(-(((a : Int).toNat ||| (b : Int).toNat : Nat) : Int) - 1) - 1 = _
  simp only [Int.toNat_natCast]
  omega
theorem xor_in {x y : Int} (h0 : 0 ≤ x) (h1 : x < 256) (k0 : 0 ≤ y) (k1 : y < 256) : KBa.In [Builtin.bitXor x y] := by
  obtain ⟨a, rfl⟩ := Int.eq_ofNat_of_zero_le h0
  obtain ⟨b, rfl⟩ := Int.eq_ofNat_of_zero_le k0
  have e : Builtin.bitXor (a : Int) (b : Int) = Builtin.bitOr a b - Builtin.bitAnd a b := rfl
  have e2 : Builtin.bitAnd (a : Int) (b : Int) = ((a &&& b : Nat) : Int) := by
    unfold Builtin.bitAnd
    simp
  have l1 : (a ||| b) < 256 := Nat.or_lt_two_pow (n := 8) (by omega) (by omega)
  have l2 : a &&& b ≤ a := Nat.and_le_left
  have l3 : a ≤ a ||| b := Nat.left_le_or
  intro z hz
  rw [List.mem_singleton] at hz
  subst hz
  rw [e, bitOr_nat, e2]
  omega
theorem wpC_callW0 {M : Model} {A : Around} {E : Value → Shared → Prop} {s : Shared} {K : Frag} {h₀ : Heap} {L : Addr} {m : Str → Option Value} {f : Value} {first : List Value} {pos : Pos} {env : Env} {Q : Value → Shared → Prop}
    (F : Fr h₀ L s.heap m) (X : K.In h₀) (hk : keepIn K f = true) (h : wpC M A (call f (first ++ [])) Q E s) : wpC M A (callWith pos f first (backTo pos (starEach [] env)) []) Q E s :=
  wpC_callWith_K0 (X.keeps F.keep) hk h
end
section
theorem off_NzL1 : True := by
  w_top off
  trivial
open PySem PySem.W PySem.Calls PyProof.Rows
theorem turned_len {ks : List Int} {t v : Int} (h0 : 0 ≤ t) (h1 : t < ks.length) : (List.take (clipAt ks.length t) ks ++ [v] ++ List.take (ks.length - clipAt ks.length (t + 1)) (List.drop (clipAt ks.length (t + 1)) ks)).length = ks.length := by
  obtain ⟨n, rfl⟩ := Int.eq_ofNat_of_zero_le h0
  have e1 := clipAt_nat ks.length n
  have e2 := clipAt_nat ks.length (n + 1)
  rw [show (((n + 1 : Nat)) : Int) = (n : Int) + 1 from by omega] at e2
  rw [e1, e2]
  simp only [List.length_append, List.length_take, List.length_drop, List.length_cons, List.length_nil]
  omega
end
section
theorem off_NzL2 : True := by
  w_top off
  trivial
open PySem PySem.W PySem.Calls PyProof.Rows
theorem short35 (ks : List Int) : (List.take (clipAt ks.length 35) ks).length < 36 := by
  have := clipAt_nat ks.length 35
  rw [show ((35 : Nat) : Int) = 35 from rfl] at this
  rw [this]
  simp only [List.length_take]
  omega
theorem short36 {n : Nat} (h : n < 36) : n ≤ 2000 := by omega
theorem own_there {a : Int} {kt : List Int} (hz : (kt.length : Int) = a) (h36 : 36 ≤ kt.length) (ok : okI a (wordI kt 4) (wordI kt 12) (wordI kt 16) (wordI kt 32)) (e : wordsI a (wordI kt 4) (wordI kt 12) (wordI kt 16) (wordI kt 32) = wordsAt kt) : superOk kt := by
  subst hz
  refine ⟨h36, ?_, ok, e⟩
  simp only [wordsAt, wordsI, List.cons.injEq] at e
  exact e.1.symm
theorem plan_words {M : Model} {A : Around} {E : Value → Shared → Prop} {s : Shared} {kt : List Int} {v : Value} {t1 t3 t4 t8 : Tok} {f : Addr} {Q : Value → Shared → Prop}
    (h : wpAny M A (call (.ref f) [v, .int (wordI kt 4) t1, .int (wordI kt 12) t3, .int (wordI kt 16) t4, .int (wordI kt 32) t8]) Q E s) :
    wpAny M A (call (.ref f) [v, .int ((wordsAt kt).getD (Int.toNat 1) 0) t1, .int ((wordsAt kt).getD (Int.toNat 3) 0) t3, .int ((wordsAt kt).getD (Int.toNat 4) 0) t4, .int ((wordsAt kt).getD (Int.toNat 8) 0) t8]) Q E s := h
theorem eq_yes {P : Prop} {i : Decidable P} (z : (true == @decide P i) = false) (h : P) : False := by
  simp [h] at z
theorem eq_no {P : Prop} {i : Decidable P} (z : (false == @decide P i) = false) : P := by
  simpa using z
end
section
local macro_rules | `(tactic| walk_at $s:str) => `(tactic| k_extra $(Lean.Syntax.mkStrLit ("76 " ++ s.getString)))
local macro_rules | `(tactic| walk_at "nz pad") => `(tactic| skip)
local macro_rules | `(tactic| walk_at "nz pad") => `(tactic| skip)
theorem off_NzJ2 : True := by
  w_top off
  trivial
open PySem PySem.W PySem.Calls PyProof.Rows
theorem kw0_NzJ2 : True := by
  k_with "76 nz pq" => k_extra "L0"
  k_with "76 nz pn" => k_extra "L1"
  k_with "76 nz pi" => k_extra "L2"
  k_with "76 nz pr" => k_extra "L3"
  k_with "76 nz oo" => k_extra "L4"
  k_with "76 nz zz" => k_extra "L5"
  k_with "76 nz om" => k_extra "L6"
  k_with "76 nz enter" => k_extra "L7"
  k_with "76 nz intro" => k_extra "L8"
  k_with "76 nz go" => k_extra "L9"
  k_with "76 nz end" => k_extra "L10"
  k_with "76 subscriptTail" => k_extra "L11"
  k_with "76 setItem ref int" => k_extra "L12"
  k_with "76 nz side" => k_extra "L13"
  k_with "76 nz pick" => k_extra "L14"
  k_with "76 nz sub" => k_extra "L15"
  k_with "76 nz news" => k_extra "L16"
  k_with "76 nz same" => k_extra "L17"
  k_with "76 nz out" => k_extra "L18"
  k_with "76 nz len" => k_extra "L19"
  k_with "76 getMethod str" => k_extra "L118"
  k_with "76 call builtin:str.encode" => k_extra "L31"
  k_with "76 call type:bytes" => k_extra "L32"
  k_with "76 call type:bytes" => k_extra "L33"
  k_with "76 call type:bytes" => k_extra "L34"
  k_with "76 call builtin:isinstance" => k_extra "L35"
  k_with "76 nz size" => k_extra "L36"
  k_with "76 exec Raise some none" => k_extra "L76"
  k_with "76 call ref" => k_extra "L107"
  k_with "76 nz raise" => k_extra "L78"
  k_with "76 nz exc" => k_extra "L79"
  k_with "76 nz exc" => k_extra "L80"
  k_with "76 nz outX" => k_extra "L81"
  k_with "76 nz steps" => k_extra "L82"
  k_with "76 nz den" => k_extra "L83"
  k_with "76 isTrue BoolOp" => k_extra "L105"
  k_with "76 call ref" => k_extra "L123"
  k_with "76 getMethod ref" => k_extra "L93"
  k_with "76 getMethod ref" => k_extra "L94"
  k_with "76 getMethod ref" => k_extra "L95"
  k_with "76 getMethod ref" => k_extra "L96"
  k_with "76 getMethod ref" => k_extra "L97"
  k_with "76 getMethod ref" => k_extra "L98"
  k_with "76 getAttr ref" => k_extra "L99"
  k_with "76 getAttr ref" => k_extra "L100"
  k_with "76 call ref" => k_extra "L172"
  k_with "76 call ref" => k_extra "L173"
  k_with "76 subscriptTail Name Constant ref int" => k_extra "L174"
  k_with "76 subscriptTail Name Constant ref int" => k_extra "L175"
  k_with "76 subscriptTail Name Constant ref int" => k_extra "L176"
  k_with "76 compareOp Eq ref ref" => k_extra "L177"
  k_with "76 compareOp NotEq ref ref" => k_extra "L178"
  k_with "76 eval ListComp" => k_extra "L179"
  k_with "76 CompSrc" => k_extra "L180"
  k_with "76 CompEnd" => k_extra "L181"
  k_with "76 binaryOp FloorDiv int int" => k_extra "L24"
  k_with "76 binaryOp Mod int int" => k_extra "L25"
  k_with "76 truthy bool" => k_extra "L182"
  k_with "76 binaryOp Pow int int" => k_extra "L183"
  k_with "76 truthy bool" => k_extra "L184"
  k_with "76 truthy bool" => k_extra "L185"
  trivial
namespace PlH
def SS (w : World) (p : Addr) (x : Addr) (dx : Addr) (la : Addr) (o : Obj) (D : Obj) (k : Nat) (a : Int) (b : Int) (c : Int) (d : Int) (e : Int) (tr : Tok) (td : Tok) (ta : Tok) (u1 : Tok) (u2 : Tok) (u3 : Tok) (u4 : Tok) (u5 : Tok) (u6 : Tok) (u7 : Tok) (u8 : Tok) (u9 : Tok) (n9 : Nat) (rest : Led) : Prop := IsPool o k → k < 990 → IsSuper w.params a b c d e D → okI a b c d e → 0 ≤ a → a ≤ 2000 → 0 ≤ b → b < 4294967296 → 0 ≤ c → c < 4294967296 → 0 ≤ d → d < 4294967296 → 0 ≤ e → e < 4294967296 → @Ne Nat p x → @Ne Nat p dx → @Ne Nat p la → (∀ q ∈ rest, q.1 ≠ p) → Ctr w 264 [.ref p, .ref x, .ref la, .int (rowsI a e) tr, .int (datI a b c d e) td, .int a ta] 4 120 ((p, o) :: (x, instObj 154 dx) :: (dx, D) :: (la, duL a b c d e u1 u2 u3 u4 u5 u6 u7 u8 u9 n9) :: rest) (fun r l => r = .bool true ∧ ∃ o', IsPool o' (k + 4) ∧ l = ((p, o') :: (x, instObj 154 dx) :: (dx, D) :: (la, duL a b c d e u1 u2 u3 u4 u5 u6 u7 u8 u9 n9) :: rest)) NoE
noncomputable def kk : World × Addr × Addr × Addr × Addr × Obj × Obj × Nat × Int × Int × Int × Int × Int × Tok × Tok × Tok × Tok × Tok × Tok × Tok × Tok × Tok × Tok × Tok × Tok × Nat × Led := Classical.epsilon fun y => ¬ SS y.1 y.2.1 y.2.2.1 y.2.2.2.1 y.2.2.2.2.1 y.2.2.2.2.2.1 y.2.2.2.2.2.2.1 y.2.2.2.2.2.2.2.1 y.2.2.2.2.2.2.2.2.1 y.2.2.2.2.2.2.2.2.2.1 y.2.2.2.2.2.2.2.2.2.2.1 y.2.2.2.2.2.2.2.2.2.2.2.1 y.2.2.2.2.2.2.2.2.2.2.2.2.1 y.2.2.2.2.2.2.2.2.2.2.2.2.2.1 y.2.2.2.2.2.2.2.2.2.2.2.2.2.2.1 y.2.2.2.2.2.2.2.2.2.2.2.2.2.2.2.1 y.2.2.2.2.2.2.2.2.2.2.2.2.2.2.2.2.1 y.2.2.2.2.2.2.2.2.2.2.2.2.2.2.2.2.2.1 y.2.2.2.2.2.2.2.2.2.2.2.2.2.2.2.2.2.2.1 y.2.2.2.2.2.2.2.2.2.2.2.2.2.2.2.2.2.2.2.1 y.2.2.2.2.2.2.2.2.2.2.2.2.2.2.2.2.2.2.2.2.1 y.2.2.2.2.2.2.2.2.2.2.2.2.2.2.2.2.2.2.2.2.2.1 y.2.2.2.2.2.2.2.2.2.2.2.2.2.2.2.2.2.2.2.2.2.2.1 y.2.2.2.2.2.2.2.2.2.2.2.2.2.2.2.2.2.2.2.2.2.2.2.1 y.2.2.2.2.2.2.2.2.2.2.2.2.2.2.2.2.2.2.2.2.2.2.2.2.1 y.2.2.2.2.2.2.2.2.2.2.2.2.2.2.2.2.2.2.2.2.2.2.2.2.2.1 y.2.2.2.2.2.2.2.2.2.2.2.2.2.2.2.2.2.2.2.2.2.2.2.2.2.2
@[irreducible] noncomputable def w : World := kk.1
@[irreducible] noncomputable def p : Addr := kk.2.1
@[irreducible] noncomputable def x : Addr := kk.2.2.1
@[irreducible] noncomputable def dx : Addr := kk.2.2.2.1
@[irreducible] noncomputable def la : Addr := kk.2.2.2.2.1
@[irreducible] noncomputable def o : Obj := kk.2.2.2.2.2.1
@[irreducible] noncomputable def D : Obj := kk.2.2.2.2.2.2.1
@[irreducible] noncomputable def k : Nat := kk.2.2.2.2.2.2.2.1
@[irreducible] noncomputable def a : Int := kk.2.2.2.2.2.2.2.2.1
@[irreducible] noncomputable def b : Int := kk.2.2.2.2.2.2.2.2.2.1
@[irreducible] noncomputable def c : Int := kk.2.2.2.2.2.2.2.2.2.2.1
@[irreducible] noncomputable def d : Int := kk.2.2.2.2.2.2.2.2.2.2.2.1
@[irreducible] noncomputable def e : Int := kk.2.2.2.2.2.2.2.2.2.2.2.2.1
@[irreducible] noncomputable def tr : Tok := kk.2.2.2.2.2.2.2.2.2.2.2.2.2.1
@[irreducible] noncomputable def td : Tok := kk.2.2.2.2.2.2.2.2.2.2.2.2.2.2.1
@[irreducible] noncomputable def ta : Tok := kk.2.2.2.2.2.2.2.2.2.2.2.2.2.2.2.1
@[irreducible] noncomputable def u1 : Tok := kk.2.2.2.2.2.2.2.2.2.2.2.2.2.2.2.2.1
@[irreducible] noncomputable def u2 : Tok := kk.2.2.2.2.2.2.2.2.2.2.2.2.2.2.2.2.2.1
@[irreducible] noncomputable def u3 : Tok := kk.2.2.2.2.2.2.2.2.2.2.2.2.2.2.2.2.2.2.1
@[irreducible] noncomputable def u4 : Tok := kk.2.2.2.2.2.2.2.2.2.2.2.2.2.2.2.2.2.2.2.1
@[irreducible] noncomputable def u5 : Tok := kk.2.2.2.2.2.2.2.2.2.2.2.2.2.2.2.2.2.2.2.2.1
@[irreducible] noncomputable def u6 : Tok := kk.2.2.2.2.2.2.2.2.2.2.2.2.2.2.2.2.2.2.2.2.2.1
@[irreducible] noncomputable def u7 : Tok := kk.2.2.2.2.2.2.2.2.2.2.2.2.2.2.2.2.2.2.2.2.2.2.1
@[irreducible] noncomputable def u8 : Tok := kk.2.2.2.2.2.2.2.2.2.2.2.2.2.2.2.2.2.2.2.2.2.2.2.1
@[irreducible] noncomputable def u9 : Tok := kk.2.2.2.2.2.2.2.2.2.2.2.2.2.2.2.2.2.2.2.2.2.2.2.2.1
@[irreducible] noncomputable def n9 : Nat := kk.2.2.2.2.2.2.2.2.2.2.2.2.2.2.2.2.2.2.2.2.2.2.2.2.2.1
@[irreducible] noncomputable def rest : Led := kk.2.2.2.2.2.2.2.2.2.2.2.2.2.2.2.2.2.2.2.2.2.2.2.2.2.2
noncomputable def yy : Fm := Classical.epsilon fun y => ¬ PremE w 264 [.ref p, .ref x, .ref la, .int (rowsI a e) tr, .int (datI a b c d e) td, .int a ta] 4 120 ((p, o) :: (x, instObj 154 dx) :: (dx, D) :: (la, duL a b c d e u1 u2 u3 u4 u5 u6 u7 u8 u9 n9) :: rest) (fun r l => r = .bool true ∧ ∃ o', IsPool o' (k + 4) ∧ l = ((p, o') :: (x, instObj 154 dx) :: (dx, D) :: (la, duL a b c d e u1 u2 u3 u4 u5 u6 u7 u8 u9 n9) :: rest)) y
end PlH
open PlH in
theorem PlH.main (hp : IsPool o k) (hk : k < 990) (hD : IsSuper w.params a b c d e D) (ok : okI a b c d e) (ha : 0 ≤ a) (ha2 : a ≤ 2000) (hb : 0 ≤ b) (hb2 : b < 4294967296) (hc : 0 ≤ c) (hc2 : c < 4294967296) (hd : 0 ≤ d) (hd2 : d < 4294967296) (he : 0 ≤ e) (he2 : e < 4294967296) (x1 : @Ne Nat p x) (x2 : @Ne Nat p dx) (x3 : @Ne Nat p la) (x4 : ∀ q ∈ rest, q.1 ≠ p) : PremE w 264 [.ref p, .ref x, .ref la, .int (rowsI a e) tr, .int (datI a b c d e) td, .int a ta] 4 120 ((p, o) :: (x, instObj 154 dx) :: (dx, D) :: (la, duL a b c d e u1 u2 u3 u4 u5 u6 u7 u8 u9 n9) :: rest) (fun r l => r = .bool true ∧ ∃ o', IsPool o' (k + 4) ∧ l = ((p, o') :: (x, instObj 154 dx) :: (dx, D) :: (la, duL a b c d e u1 u2 u3 u4 u5 u6 u7 u8 u9 n9) :: rest)) yy := by
  k_dflt (refine' premE_of ?k6 ?hb ?_; (case k6 => (with_unfolding_all rfl)); (case hb => (with_unfolding_all rfl)); k_whole)
  k_fill
  intro cells B F X N Y l1 T hd hu
  obtain ⟨q1, q2, q3, q4, q5, q6, q7, q8⟩ := id ok
  obtain ⟨w1, w2, w3, w4⟩ : (@LT.lt Nat instLTNat p yy.L) ∧ (@LT.lt Nat instLTNat x yy.L) ∧ (@LT.lt Nat instLTNat dx yy.L) ∧ (@LT.lt Nat instLTNat la yy.L) := ⟨l1 _ (.head _), l1 _ (.tail _ (.head _)), l1 _ (.tail _ (.tail _ (.head _))), l1 _ (.tail _ (.tail _ (.tail _ (.head _))))⟩
  have lr : ∀ q ∈ rest, q.1 < yy.L := fun q hq => l1 q (.tail _ (.tail _ (.tail _ (.tail _ hq))))
  have c1 : ∀ q ∈ rest, q.1 ≠ yy.L + 1 := fun q hq => Nat.ne_of_lt (Nat.lt_add_right 1 (lr q hq))
  have c2 : ∀ q ∈ rest, q.1 ≠ yy.L + 1 + 1 := fun q hq => Nat.ne_of_lt (Nat.lt_add_right 1 (Nat.lt_add_right 1 (lr q hq)))
  have c3 : ∀ q ∈ rest, q.1 ≠ yy.L + 1 + 1 + 1 := fun q hq => Nat.ne_of_lt (Nat.lt_add_right 1 (Nat.lt_add_right 1 (Nat.lt_add_right 1 (lr q hq))))
  have c4 : ∀ q ∈ rest, q.1 ≠ yy.L + 1 + 1 + 1 + 1 := fun q hq => Nat.ne_of_lt (Nat.lt_add_right 1 (Nat.lt_add_right 1 (Nat.lt_add_right 1 (Nat.lt_add_right 1 (lr q hq)))))
  have hR : 0 < rowI e := by show 0 < 12 + 4 * (e + 1); omega
  have rp : 0 < rowsI a e := ediv_pos (by omega) q2
  have rs : rowsI a e ≤ 2000 := Int.le_trans (Int.ediv_le_self _ ha) ha2
  k_cells Y
  (try simp only [List.cons_append, List.nil_append] at N)
  (with_reducible show wpAny _ _ _ _ _ _)
  k_fold
  iterate 224 (first | (k_unfold; (try dsimp only)) | (k_end; kc_close) | walk1 | (dsimp only; walk1) | (dsimp only; k_unfold; (try dsimp only)) | (leave1; (try dsimp only)) | fail "no step")
  (with_reducible rename News _ _ _ _ => N8)
  have N9 : News yy.g yy.L _ ((yy.L + 1 + 1 + 1 + 1, _) :: (yy.L + 1 + 1 + 1, _) :: (yy.L + 1 + 1, _) :: (yy.L + 1, _) :: (p, _) :: (x, instObj 154 dx) :: (dx, D) :: (la, _) :: rest) := news_sub N8 (by walk_at "nz sub")
  clear N8
  repeat ((with_reducible rename _ ∧ _ => z9); clear z9)
  repeat ((with_reducible rename (0 : Int) ≤ _ % _ => z9); clear z9)
  repeat ((with_reducible rename (_ : Int) % _ < _ => z9); clear z9)
  repeat ((with_reducible rename _ = some _ => z9); clear z9)
  repeat ((with_reducible rename LCg.NsObj _ _ => z9); clear z9)
  repeat ((with_reducible rename KPfMark => z9); clear z9)
  k_steps
  walk_at "nz out"
  case P => exact ⟨congrArg Value.bool (by simp), _, IsPool.le (by assumption) (by omega), rfl⟩
  case N => walk_at "nz news"
open PlH in
theorem PlH.fin (hp : IsPool o k) (hk : k < 990) (hD : IsSuper w.params a b c d e D) (ok : okI a b c d e) (ha : 0 ≤ a) (ha2 : a ≤ 2000) (hb : 0 ≤ b) (hb2 : b < 4294967296) (hc : 0 ≤ c) (hc2 : c < 4294967296) (hd : 0 ≤ d) (hd2 : d < 4294967296) (he : 0 ≤ e) (he2 : e < 4294967296) (x1 : @Ne Nat p x) (x2 : @Ne Nat p dx) (x3 : @Ne Nat p la) (x4 : ∀ q ∈ rest, q.1 ≠ p) : Ctr w 264 [.ref p, .ref x, .ref la, .int (rowsI a e) tr, .int (datI a b c d e) td, .int a ta] 4 120 ((p, o) :: (x, instObj 154 dx) :: (dx, D) :: (la, duL a b c d e u1 u2 u3 u4 u5 u6 u7 u8 u9 n9) :: rest) (fun r l => r = .bool true ∧ ∃ o', IsPool o' (k + 4) ∧ l = ((p, o') :: (x, instObj 154 dx) :: (dx, D) :: (la, duL a b c d e u1 u2 u3 u4 u5 u6 u7 u8 u9 n9) :: rest)) NoE := by
  have h : ∀ y, PremE w 264 [.ref p, .ref x, .ref la, .int (rowsI a e) tr, .int (datI a b c d e) td, .int a ta] 4 120 ((p, o) :: (x, instObj 154 dx) :: (dx, D) :: (la, duL a b c d e u1 u2 u3 u4 u5 u6 u7 u8 u9 n9) :: rest) (fun r l => r = .bool true ∧ ∃ o', IsPool o' (k + 4) ∧ l = ((p, o') :: (x, instObj 154 dx) :: (dx, D) :: (la, duL a b c d e u1 u2 u3 u4 u5 u6 u7 u8 u9 n9) :: rest)) y := henk (PlH.main hp hk hD ok ha ha2 hb hb2 hc hc2 hd hd2 he he2 x1 x2 x3 x4)
  k_dflt (refine' ctr_cells (binds := [(Str.ofString "pool", .ref p), (Str.ofString "plan", .ref x), (Str.ofString "due", .ref la), (Str.ofString "rows", .int (rowsI a e) tr), (Str.ofString "data", .int (datI a b c d e) td), (Str.ofString "block", .int a ta)]) ?k6 ?k7 ?k9 ?kB ?kD ?c2 ?c3 ?c4 ?_; (case k6 => (with_unfolding_all rfl)); (case k7 => (with_unfolding_all rfl)); (case k9 => exact rfl); (case kB => exact rfl); (case kD => decide +kernel); (case c2 => exact rfl); (case c3 => exact rfl); (case c4 => exact rfl); k_whole)
  intro mean mg mb dp un gd env outer base g L cells s B F X N Y l1 T hd hu
  (with_unfolding_all refine' h ⟨mean, mg, mb, dp, un, gd, env, outer, base, g, L, s⟩ _ _ _ _ _ _ _ _ _ _ _ _ _ _ _ ?k6 ?zcells ?zB ?zF ?zX ?zN ?zY ?zl1 ?zT ?zhd ?zhu)
  (case k6 => with_unfolding_all rfl)
  (case zcells => with_unfolding_all exact cells)
  (case zB => with_unfolding_all exact B)
  (case zF => with_unfolding_all exact F)
  (case zX => with_unfolding_all exact X)
  (case zN => with_unfolding_all exact N)
  (case zY => with_unfolding_all exact Y)
  (case zl1 => with_unfolding_all exact l1)
  (case zT => with_unfolding_all exact T)
  (case zhd => with_unfolding_all exact hd)
  (case zhu => with_unfolding_all exact hu)
theorem c_places (w : World) (p : Addr) (x : Addr) (dx : Addr) (la : Addr) (o : Obj) (D : Obj) (k : Nat) (a : Int) (b : Int) (c : Int) (d : Int) (e : Int) (tr : Tok) (td : Tok) (ta : Tok) (u1 : Tok) (u2 : Tok) (u3 : Tok) (u4 : Tok) (u5 : Tok) (u6 : Tok) (u7 : Tok) (u8 : Tok) (u9 : Tok) (n9 : Nat) (rest : Led) (hp : IsPool o k) (hk : k < 990) (hD : IsSuper w.params a b c d e D) (ok : okI a b c d e) (ha : 0 ≤ a) (ha2 : a ≤ 2000) (hb : 0 ≤ b) (hb2 : b < 4294967296) (hc : 0 ≤ c) (hc2 : c < 4294967296) (hd : 0 ≤ d) (hd2 : d < 4294967296) (he : 0 ≤ e) (he2 : e < 4294967296) (x1 : @Ne Nat p x) (x2 : @Ne Nat p dx) (x3 : @Ne Nat p la) (x4 : ∀ q ∈ rest, q.1 ≠ p) : Ctr w 264 [.ref p, .ref x, .ref la, .int (rowsI a e) tr, .int (datI a b c d e) td, .int a ta] 4 120 ((p, o) :: (x, instObj 154 dx) :: (dx, D) :: (la, duL a b c d e u1 u2 u3 u4 u5 u6 u7 u8 u9 n9) :: rest) (fun r l => r = .bool true ∧ ∃ o', IsPool o' (k + 4) ∧ l = ((p, o') :: (x, instObj 154 dx) :: (dx, D) :: (la, duL a b c d e u1 u2 u3 u4 u5 u6 u7 u8 u9 n9) :: rest)) NoE := by
  refine henk (P := fun y => PlH.SS y.1 y.2.1 y.2.2.1 y.2.2.2.1 y.2.2.2.2.1 y.2.2.2.2.2.1 y.2.2.2.2.2.2.1 y.2.2.2.2.2.2.2.1 y.2.2.2.2.2.2.2.2.1 y.2.2.2.2.2.2.2.2.2.1 y.2.2.2.2.2.2.2.2.2.2.1 y.2.2.2.2.2.2.2.2.2.2.2.1 y.2.2.2.2.2.2.2.2.2.2.2.2.1 y.2.2.2.2.2.2.2.2.2.2.2.2.2.1 y.2.2.2.2.2.2.2.2.2.2.2.2.2.2.1 y.2.2.2.2.2.2.2.2.2.2.2.2.2.2.2.1 y.2.2.2.2.2.2.2.2.2.2.2.2.2.2.2.2.1 y.2.2.2.2.2.2.2.2.2.2.2.2.2.2.2.2.2.1 y.2.2.2.2.2.2.2.2.2.2.2.2.2.2.2.2.2.2.1 y.2.2.2.2.2.2.2.2.2.2.2.2.2.2.2.2.2.2.2.1 y.2.2.2.2.2.2.2.2.2.2.2.2.2.2.2.2.2.2.2.2.1 y.2.2.2.2.2.2.2.2.2.2.2.2.2.2.2.2.2.2.2.2.2.1 y.2.2.2.2.2.2.2.2.2.2.2.2.2.2.2.2.2.2.2.2.2.2.1 y.2.2.2.2.2.2.2.2.2.2.2.2.2.2.2.2.2.2.2.2.2.2.2.1 y.2.2.2.2.2.2.2.2.2.2.2.2.2.2.2.2.2.2.2.2.2.2.2.2.1 y.2.2.2.2.2.2.2.2.2.2.2.2.2.2.2.2.2.2.2.2.2.2.2.2.2.1 y.2.2.2.2.2.2.2.2.2.2.2.2.2.2.2.2.2.2.2.2.2.2.2.2.2.2) ?_ (w, p, x, dx, la, o, D, k, a, b, c, d, e, tr, td, ta, u1, u2, u3, u4, u5, u6, u7, u8, u9, n9, rest) hp hk hD ok ha ha2 hb hb2 hc hc2 hd hd2 he he2 x1 x2 x3 x4
  intro hp hk hD ok ha ha2 hb hb2 hc hc2 hd hd2 he he2 x1 x2 x3 x4
  with_unfolding_all exact PlH.fin hp hk hD ok ha ha2 hb hb2 hc hc2 hd hd2 he he2 x1 x2 x3 x4
end
section
local macro_rules | `(tactic| walk_at $s:str) => `(tactic| k_extra $(Lean.Syntax.mkStrLit ("77 " ++ s.getString)))
theorem off_NzSR : True := by
  w_top off
  trivial
open PySem PySem.W PySem.Calls PyProof.Rows
theorem kw0_NzSR : True := by
  k_with "77 nz pq" => k_extra "L0"
  k_with "77 nz pn" => k_extra "L1"
  k_with "77 nz pi" => k_extra "L2"
  k_with "77 nz pr" => k_extra "L3"
  k_with "77 nz oo" => k_extra "L4"
  k_with "77 nz zz" => k_extra "L5"
  k_with "77 nz om" => k_extra "L6"
  k_with "77 nz enter" => k_extra "L7"
  k_with "77 nz intro" => k_extra "L8"
  k_with "77 nz go" => k_extra "L9"
  k_with "77 nz end" => k_extra "L10"
  k_with "77 subscriptTail" => k_extra "L11"
  k_with "77 setItem ref int" => k_extra "L12"
  k_with "77 nz side" => k_extra "L13"
  k_with "77 nz pick" => k_extra "L14"
  k_with "77 nz sub" => k_extra "L15"
  k_with "77 nz news" => k_extra "L16"
  k_with "77 nz same" => k_extra "L17"
  k_with "77 nz out" => k_extra "L18"
  k_with "77 nz len" => k_extra "L19"
  k_with "77 getMethod str" => k_extra "L118"
  k_with "77 call builtin:str.encode" => k_extra "L31"
  k_with "77 call type:bytes" => k_extra "L32"
  k_with "77 call type:bytes" => k_extra "L33"
  k_with "77 call type:bytes" => k_extra "L34"
  k_with "77 call builtin:isinstance" => k_extra "L35"
  k_with "77 nz size" => k_extra "L36"
  k_with "77 exec Raise some none" => k_extra "L76"
  k_with "77 call ref" => k_extra "L107"
  k_with "77 nz raise" => k_extra "L78"
  k_with "77 nz exc" => k_extra "L79"
  k_with "77 nz exc" => k_extra "L80"
  k_with "77 nz outX" => k_extra "L81"
  k_with "77 nz steps" => k_extra "L82"
  k_with "77 nz den" => k_extra "L83"
  k_with "77 nz turned" => k_extra "L85"
  k_with "77 nz outX" => k_extra "L86"
  k_with "77 nz enterC" => k_extra "L40"
  k_with "77 nz introC" => k_extra "L41"
  k_with "77 nz goC" => k_extra "L42"
  k_with "77 nz steps" => k_extra "L43"
  k_with "77 last wpC" => k_extra "L186"
  k_with "77 wpC" => k_extra "L45"
  k_with "77 wpC" => k_extra "L46"
  k_with "77 wpC" => k_extra "L47"
  k_with "77 wpC" => k_extra "L48"
  k_with "77 wpC" => k_extra "L49"
  k_with "77 wpC" => k_extra "L50"
  k_with "77 wpC" => k_extra "L128"
  k_with "77 wpC" => k_extra "L52"
  k_with "77 wpC" => k_extra "L53"
  k_with "77 wpC" => k_extra "L54"
  k_with "77 wpC" => k_extra "L55"
  k_with "77 wpC" => k_extra "L56"
  k_with "77 wpC" => k_extra "L57"
  k_with "77 wpC" => k_extra "L58"
  k_with "77 wpC" => k_extra "L59"
  k_with "77 wpC" => k_extra "L60"
  k_with "77 wpC" => k_extra "L61"
  k_with "77 getMethod ref" => k_extra "L62"
  k_with "77 wpC" => k_extra "L63"
  k_with "77 nz turn" => k_extra "L64"
  k_with "77 call builtin:len" => k_extra "L65"
  k_with "77 isTrue BoolOp" => k_extra "L105"
  k_with "77 binaryOp FloorDiv int int" => k_extra "L24"
  k_with "77 call ref" => k_extra "L123"
  k_with "77 call ref" => k_extra "L187"
  k_with "77 call ref" => k_extra "L188"
  k_with "77 getMethod ref" => k_extra "L93"
  k_with "77 getMethod ref" => k_extra "L94"
  k_with "77 getMethod ref" => k_extra "L95"
  k_with "77 getMethod ref" => k_extra "L96"
  k_with "77 getMethod ref" => k_extra "L97"
  k_with "77 getMethod ref" => k_extra "L98"
  k_with "77 getAttr ref" => k_extra "L99"
  k_with "77 getAttr ref" => k_extra "L100"
  k_with "77 call ref" => k_extra "L101"
  k_with "77 call ref" => k_extra "L189"
  k_with "77 call ref" => k_extra "L190"
  k_with "77 wpC" => k_extra "L191"
  k_with "77 wpC" => k_extra "L192"
  k_with "77 call ref" => k_extra "L111"
  k_with "77 call type:bytes" => k_extra "L149"
  k_with "77 binaryOp Add bytes bytes" => k_extra "L148"
  k_with "77 nz len" => k_extra "L147"
  k_with "77 nz steps" => k_extra "L193"
  k_with "77 callWith ref" => k_extra "L194"
  k_with "77 nz stop" => k_extra "L195"
  k_with "77 nz stops" => k_extra "L196"
  k_with "77 eval Name" => k_extra "L197"
  k_with "77 compareOp NotEq bytes bytes" => k_extra "L198"
  k_with "77 call ref" => k_extra "L199"
  k_with "77 call ref" => k_extra "L200"
  k_with "77 call ref" => k_extra "L201"
  k_with "77 call type:bytes" => k_extra "L202"
  k_with "77 call ref" => k_extra "L203"
  k_with "77 call ref" => k_extra "L204"
  trivial
namespace SrH
def SS (w : World) (p : Addr) (o : Obj) (k : Nat) (rest : Led) : Prop := (∀ q ∈ rest, q.1 ≠ p) → IsPool o k → k < 970 → CtrD w 269 [.ref p] 60 400 ((p, o) :: rest) (fun r l => r = .bool true ∧ ∃ o', IsPool o' (k + 14) ∧ l = (p, o') :: rest)
noncomputable def kk : World × Addr × Obj × Nat × Led := Classical.epsilon fun y => ¬ SS y.1 y.2.1 y.2.2.1 y.2.2.2.1 y.2.2.2.2
@[irreducible] noncomputable def w : World := kk.1
@[irreducible] noncomputable def p : Addr := kk.2.1
@[irreducible] noncomputable def o : Obj := kk.2.2.1
@[irreducible] noncomputable def k : Nat := kk.2.2.2.1
@[irreducible] noncomputable def rest : Led := kk.2.2.2.2
noncomputable def yy : Fm := Classical.epsilon fun y => ¬ PremD w 269 [.ref p] 60 400 ((p, o) :: rest) (fun r l => r = .bool true ∧ ∃ o', IsPool o' (k + 14) ∧ l = (p, o') :: rest) y
end SrH
theorem SA.un {A0 A1 A2 A3 A4 A5 A6 A7 A8 A9 A10 A11 A12 A13 A14 A15 A16 A17 A18 A19 A20 A21 A22 A23 A24 A25 A26 A27 A28 A29 A30 A31 A32 A33 A34 A35 A36 A37 A38 A39 A40 : Type} {F : A0 → A1 → A2 → A3 → A4 → A5 → A6 → A7 → A8 → A9 → A10 → A11 → A12 → A13 → A14 → A15 → A16 → A17 → A18 → A19 → A20 → A21 → A22 → A23 → A24 → A25 → A26 → A27 → A28 → A29 → A30 → A31 → A32 → A33 → A34 → A35 → A36 → A37 → A38 → A39 → A40 → Prop} (h : ∀ y : A0 × A1 × A2 × A3 × A4 × A5 × A6 × A7 × A8 × A9 × A10 × A11 × A12 × A13 × A14 × A15 × A16 × A17 × A18 × A19 × A20 × A21 × A22 × A23 × A24 × A25 × A26 × A27 × A28 × A29 × A30 × A31 × A32 × A33 × A34 × A35 × A36 × A37 × A38 × A39 × A40, F y.1 y.2.1 y.2.2.1 y.2.2.2.1 y.2.2.2.2.1 y.2.2.2.2.2.1 y.2.2.2.2.2.2.1 y.2.2.2.2.2.2.2.1 y.2.2.2.2.2.2.2.2.1 y.2.2.2.2.2.2.2.2.2.1 y.2.2.2.2.2.2.2.2.2.2.1 y.2.2.2.2.2.2.2.2.2.2.2.1 y.2.2.2.2.2.2.2.2.2.2.2.2.1 y.2.2.2.2.2.2.2.2.2.2.2.2.2.1 y.2.2.2.2.2.2.2.2.2.2.2.2.2.2.1 y.2.2.2.2.2.2.2.2.2.2.2.2.2.2.2.1 y.2.2.2.2.2.2.2.2.2.2.2.2.2.2.2.2.1 y.2.2.2.2.2.2.2.2.2.2.2.2.2.2.2.2.2.1 y.2.2.2.2.2.2.2.2.2.2.2.2.2.2.2.2.2.2.1 y.2.2.2.2.2.2.2.2.2.2.2.2.2.2.2.2.2.2.2.1 y.2.2.2.2.2.2.2.2.2.2.2.2.2.2.2.2.2.2.2.2.1 y.2.2.2.2.2.2.2.2.2.2.2.2.2.2.2.2.2.2.2.2.2.1 y.2.2.2.2.2.2.2.2.2.2.2.2.2.2.2.2.2.2.2.2.2.2.1 y.2.2.2.2.2.2.2.2.2.2.2.2.2.2.2.2.2.2.2.2.2.2.2.1 y.2.2.2.2.2.2.2.2.2.2.2.2.2.2.2.2.2.2.2.2.2.2.2.2.1 y.2.2.2.2.2.2.2.2.2.2.2.2.2.2.2.2.2.2.2.2.2.2.2.2.2.1 y.2.2.2.2.2.2.2.2.2.2.2.2.2.2.2.2.2.2.2.2.2.2.2.2.2.2.1 y.2.2.2.2.2.2.2.2.2.2.2.2.2.2.2.2.2.2.2.2.2.2.2.2.2.2.2.1 y.2.2.2.2.2.2.2.2.2.2.2.2.2.2.2.2.2.2.2.2.2.2.2.2.2.2.2.2.1 y.2.2.2.2.2.2.2.2.2.2.2.2.2.2.2.2.2.2.2.2.2.2.2.2.2.2.2.2.2.1 y.2.2.2.2.2.2.2.2.2.2.2.2.2.2.2.2.2.2.2.2.2.2.2.2.2.2.2.2.2.2.1 y.2.2.2.2.2.2.2.2.2.2.2.2.2.2.2.2.2.2.2.2.2.2.2.2.2.2.2.2.2.2.2.1 y.2.2.2.2.2.2.2.2.2.2.2.2.2.2.2.2.2.2.2.2.2.2.2.2.2.2.2.2.2.2.2.2.1 y.2.2.2.2.2.2.2.2.2.2.2.2.2.2.2.2.2.2.2.2.2.2.2.2.2.2.2.2.2.2.2.2.2.1 y.2.2.2.2.2.2.2.2.2.2.2.2.2.2.2.2.2.2.2.2.2.2.2.2.2.2.2.2.2.2.2.2.2.2.1 y.2.2.2.2.2.2.2.2.2.2.2.2.2.2.2.2.2.2.2.2.2.2.2.2.2.2.2.2.2.2.2.2.2.2.2.1 y.2.2.2.2.2.2.2.2.2.2.2.2.2.2.2.2.2.2.2.2.2.2.2.2.2.2.2.2.2.2.2.2.2.2.2.2.1 y.2.2.2.2.2.2.2.2.2.2.2.2.2.2.2.2.2.2.2.2.2.2.2.2.2.2.2.2.2.2.2.2.2.2.2.2.2.1 y.2.2.2.2.2.2.2.2.2.2.2.2.2.2.2.2.2.2.2.2.2.2.2.2.2.2.2.2.2.2.2.2.2.2.2.2.2.2.1 y.2.2.2.2.2.2.2.2.2.2.2.2.2.2.2.2.2.2.2.2.2.2.2.2.2.2.2.2.2.2.2.2.2.2.2.2.2.2.2.1 y.2.2.2.2.2.2.2.2.2.2.2.2.2.2.2.2.2.2.2.2.2.2.2.2.2.2.2.2.2.2.2.2.2.2.2.2.2.2.2.2) : ∀ (x0 : A0) (x1 : A1) (x2 : A2) (x3 : A3) (x4 : A4) (x5 : A5) (x6 : A6) (x7 : A7) (x8 : A8) (x9 : A9) (x10 : A10) (x11 : A11) (x12 : A12) (x13 : A13) (x14 : A14) (x15 : A15) (x16 : A16) (x17 : A17) (x18 : A18) (x19 : A19) (x20 : A20) (x21 : A21) (x22 : A22) (x23 : A23) (x24 : A24) (x25 : A25) (x26 : A26) (x27 : A27) (x28 : A28) (x29 : A29) (x30 : A30) (x31 : A31) (x32 : A32) (x33 : A33) (x34 : A34) (x35 : A35) (x36 : A36) (x37 : A37) (x38 : A38) (x39 : A39) (x40 : A40), F x0 x1 x2 x3 x4 x5 x6 x7 x8 x9 x10 x11 x12 x13 x14 x15 x16 x17 x18 x19 x20 x21 x22 x23 x24 x25 x26 x27 x28 x29 x30 x31 x32 x33 x34 x35 x36 x37 x38 x39 x40 :=
  fun x0 x1 x2 x3 x4 x5 x6 x7 x8 x9 x10 x11 x12 x13 x14 x15 x16 x17 x18 x19 x20 x21 x22 x23 x24 x25 x26 x27 x28 x29 x30 x31 x32 x33 x34 x35 x36 x37 x38 x39 x40 => h (x0, x1, x2, x3, x4, x5, x6, x7, x8, x9, x10, x11, x12, x13, x14, x15, x16, x17, x18, x19, x20, x21, x22, x23, x24, x25, x26, x27, x28, x29, x30, x31, x32, x33, x34, x35, x36, x37, x38, x39, x40)
open SrH in
noncomputable def SA.cut : Σ' (F : Obj → Obj → Obj → Int → Obj → Nat → Int → Obj → Nat → Int → Obj → Int → Tok → Obj → Int → Tok → Obj → Int → Tok → Addr → Addr → Tok → Tok → Tok → Tok → Tok → Tok → Tok → Tok → Tok → Tok → Tok → Nat → Heap → Addr → Addr → Obj → Heap → Nat → Int → Int → Prop), ((∀ (x0 : Obj) (x1 : Obj) (x2 : Obj) (x3 : Int) (x4 : Obj) (x5 : Nat) (x6 : Int) (x7 : Obj) (x8 : Nat) (x9 : Int) (x10 : Obj) (x11 : Int) (x12 : Tok) (x13 : Obj) (x14 : Int) (x15 : Tok) (x16 : Obj) (x17 : Int) (x18 : Tok) (x19 : Addr) (x20 : Addr) (x21 : Tok) (x22 : Tok) (x23 : Tok) (x24 : Tok) (x25 : Tok) (x26 : Tok) (x27 : Tok) (x28 : Tok) (x29 : Tok) (x30 : Tok) (x31 : Tok) (x32 : Nat) (x33 : Heap) (x34 : Addr) (x35 : Addr) (x36 : Obj) (x37 : Heap) (x38 : Nat) (x39 : Int) (x40 : Int), F x0 x1 x2 x3 x4 x5 x6 x7 x8 x9 x10 x11 x12 x13 x14 x15 x16 x17 x18 x19 x20 x21 x22 x23 x24 x25 x26 x27 x28 x29 x30 x31 x32 x33 x34 x35 x36 x37 x38 x39 x40) → ∀ (hr : ∀ q ∈ rest, q.1 ≠ p) (hp : IsPool o k) (hk : k < 970), PremD w 269 [.ref p] 60 400 ((p, o) :: rest) (fun r l => r = .bool true ∧ ∃ o', IsPool o' (k + 14) ∧ l = (p, o') :: rest) yy) := by
  apply PSigma.mk
  focus
    intro hK hr hp hk
    k_dflt (refine' premD_of ?k6 ?hb ?_; (case k6 => (with_unfolding_all rfl)); (case hb => (with_unfolding_all rfl)); k_whole)
    k_fill
    intro cells B F X N Y l1 T XB TB D hd hu
    have pL : @LT.lt Nat instLTNat p yy.L := l1 _ (.head _)
    have c1 : ∀ q ∈ rest, q.1 ≠ yy.L + 1 := fun q hq => Nat.ne_of_lt (Nat.lt_succ_of_lt (l1 q (.tail _ hq)))
    have c2 : ∀ q ∈ rest, q.1 ≠ yy.L + 1 + 1 := fun q hq => Nat.ne_of_lt (Nat.lt_succ_of_lt (Nat.lt_succ_of_lt (l1 q (.tail _ hq))))
    k_cells Y
    (try simp only [List.cons_append, List.nil_append] at N)
    have Tn0 := turned_refl (w := w) B X T D
    k_steps
    · (try k_unmd); (try k_unfold); (try dsimp only)
      walk_at "nz outX"
      case P => exact ⟨rfl, _, IsPool.le (by assumption) (by omega), rfl⟩
      case N => walk_at "nz news"
    (have o9 := True.intro; have hp9 := True.intro; have dg9 := True.intro; have lo9 := True.intro; have hi9 := True.intro; have F9 := True.intro; have la9 := True.intro; have u10 := True.intro; have u11 := True.intro; have n8 := True.intro; have N9 := True.intro; have g9 := True.intro; have Tn5 := True.intro; have ok9 := True.intro; have x9 := True.intro; have dx9 := True.intro; have D9 := True.intro; have lx9 := True.intro; have hD9 := True.intro; have B5 := True.intro; have X5 := True.intro; have T5 := True.intro; have D5 := True.intro; have Tn6 := True.intro; have fa9 := True.intro; have u1 := True.intro; have u2 := True.intro; have u3 := True.intro; have u4 := True.intro; have u5 := True.intro; have u6 := True.intro; have u7 := True.intro; have u8 := True.intro; have u9 := True.intro; have n9 := True.intro; have lt9 := True.intro; have h9 := True.intro; have tk9 := True.intro; have t9 := True.intro; rename_i op_0 o2p_0 d1p_0 d2p_0 qk_14 ek_14 o9_5 h9_10 tk9_10 hp9_5 dg9_5 t9_7 lo9_5 hi9_5 qk_13 ek_13 o9_4 h9_9 tk9_9 hp9_4 dg9_4 t9_6 lo9_4 hi9_4 qk_12 ek_12 o9_3 h9_8 tk9_8 hp9_3 dg9_3 t9_5 lo9_3 hi9_3 qk_11 ek_11 o9_2 h9_7 tk9_7 hp9_2 dg9_2 t9_4 lo9_2 hi9_2 qk_10 ek_10 Dp_2 hp_18 l1_4 hp_17 hp_16 hp_15 hp_14 qk_9 ek_9 o9_1 h9_6 tk9_6 hp9_1 dg9_1 t9_3 lo9_1 hi9_1 qk_8 ek_8 o9_0 h9_5 tk9_5 hp9_0 dg9_0 t9_2 lo9_0 hi9_0 qk_7 ek_7 Dp_1 hp_13 l1_3 hp_12 hp_11 hp_10 qk_6 ek_6 h9_4 tk9_4 F9_0 ok9_1 la9_0 fa9_1 u1_1 u2_1 u3_1 u4_1 u5_1 u6_1 u7_1 u8_1 u9_1 u10_0 u11_0 n9_1 n8_0 lx9_1 N9_0 lt9_2 g9_0 h9_3 tk9_3 Tn5_0 ok9_0 x9_0 dx9_0 D9_0 lx9_0 hD9_0 lt9_1 B5_0 X5_0 T5_0 D5_0 Tn6_0 Dp_0 hp_9 l1_2 hp_8 hp_7 hp_6 qk_5 ek_5 qk_4 ek_4 tk_0 qk_3 ek_3 hp_5 hp_4 hp_3 hp_2 qk_2 ek_2 qk_1 ek_1 h9_2 tk9_2 fa9_0 u1_0 u2_0 u3_0 u4_0 u5_0 u6_0 u7_0 u8_0 u9_0 n9_0 lt9_0 h9_1 tk9_1 t9_1 qk_0 ek_0 h9_0 tk9_0 t9_0 lp_1 hp_1 l1_1 lp_0 hp_0 Fp_0 Np_0 l1_0; clear t9 tk9 h9 lt9 n9 u9 u8 u7 u6 u5 u4 u3 u2 u1 fa9 Tn6 D5 T5 X5 B5 hD9 lx9 D9 dx9 x9 ok9 Tn5 g9 N9 n8 u11 u10 la9 F9 hi9 lo9 dg9 hp9 o9)
    have q1 : @LT.lt Nat instLTNat p la9_0 := by omega
    have q2 : @LT.lt Nat instLTNat la9_0 dx9_0 := by omega
    have q3 : @LT.lt Nat instLTNat dx9_0 x9_0 := by omega
    have q4 : @LT.lt Nat instLTNat (yy.L + 1 + 1) la9_0 := by omega
    have N2 := news_sub Np_0 (l := (x9_0, instObj 154 dx9_0) :: (dx9_0, D9_0) :: (la9_0, _) :: (yy.L + 1 + 1, _) :: (yy.L + 1, _) :: (p, o9_0) :: rest) (by walk_at "nz sub")
    clear Np_0 Tn5_0 ok9_1
    (try clear N9_0)
    (try clear F9_0)
    (try clear F)
    (try clear N)
    (try clear Tn0)
    repeat ((with_reducible rename _ ∧ _ => z9); clear z9)
    have ha : 0 ≤ 16 * dg9_5 + 4 * (dg9_4 / 8) := by omega
    have ha2 : 16 * dg9_5 + 4 * (dg9_4 / 8) ≤ 2000 := by omega
    have hb : 0 ≤ 20 + dg9_3 := by omega
    have hb2 : 20 + dg9_3 < 4294967296 := by omega
    have hc2 : dg9_2 < 4294967296 := by omega
    have hd2 : dg9_1 < 4294967296 := by omega
    have he2 : dg9_0 < 4294967296 := by omega
    generalize 16 * dg9_5 + 4 * (dg9_4 / 8) = a at *
    generalize 20 + dg9_3 = b at *
    clear lp_0 hp_1 lp_1 ek qk t9_0 tk9_0 h9_0 ek_0 qk_0 t9_1 tk9_1 h9_1 n9_0 u9_0 u8_0 u7_0 u6_0 u5_0 u4_0 u3_0 u2_0 u1_0 fa9_0 tk9_2 h9_2 ek_1 qk_1 ek_2 qk_2 hp_2 hp_3 hp_4 hp_5 ek_3 qk_3 tk_0 ek_4 qk_4 ek_5 qk_5 hp_6 hp_7 hp_8 hp_9 Dp_0 tk9_3 h9_3 n8_0 tk9_4 h9_4 ek_6 qk_6 hp_10 hp_11 hp_12 hp_13 Dp_1 ek_7 qk_7 tk9_5 h9_5 ek_8 qk_8 tk9_6 h9_6 ek_9 qk_9 hp_14 hp_15 hp_16 hp_17 hp_18 Dp_2 ek_10 qk_10 tk9_7 h9_7 ek_11 qk_11 t9_5 h9_8 ek_12 qk_12 t9_6 h9_9 ek_13 qk_13 t9_7 tk9_10 h9_10 ek_14 qk_14
    revert hr hp hk B X l1 T XB TB D hd hu pL c1 c2 d1p_0 d2p_0 hp9_5 lo9_5 hi9_5 hp9_4 lo9_4 hi9_4 hp9_3 lo9_3 hi9_3 hp9_2 lo9_2 hi9_2 hp9_1 lo9_1 hi9_1 hp9_0 lo9_0 hi9_0 lx9_1 lx9_0 B5_0 X5_0 T5_0 D5_0 Tn6_0 q1 q2 q3 q4 hc2 hd2 he2 ha ha2 hb hb2 ok9_0 hD9_0 Fp_0 N2
    revert op_0 o2p_0 o9_5 dg9_5 o9_4 tk9_9 dg9_4 o9_3 tk9_8 dg9_3 o9_2 dg9_2 t9_4 o9_1 dg9_1 t9_3 o9_0 dg9_0 t9_2 la9_0 fa9_1 u1_1 u2_1 u3_1 u4_1 u5_1 u6_1 u7_1 u8_1 u9_1 u10_0 u11_0 n9_1 g9_0 x9_0 dx9_0 D9_0 hp_0 tk a b
    exact hK
namespace SA
noncomputable def kk : Obj × Obj × Obj × Int × Obj × Nat × Int × Obj × Nat × Int × Obj × Int × Tok × Obj × Int × Tok × Obj × Int × Tok × Addr × Addr × Tok × Tok × Tok × Tok × Tok × Tok × Tok × Tok × Tok × Tok × Tok × Nat × Heap × Addr × Addr × Obj × Heap × Nat × Int × Int := Classical.epsilon fun y => ¬ SA.cut.1 y.1 y.2.1 y.2.2.1 y.2.2.2.1 y.2.2.2.2.1 y.2.2.2.2.2.1 y.2.2.2.2.2.2.1 y.2.2.2.2.2.2.2.1 y.2.2.2.2.2.2.2.2.1 y.2.2.2.2.2.2.2.2.2.1 y.2.2.2.2.2.2.2.2.2.2.1 y.2.2.2.2.2.2.2.2.2.2.2.1 y.2.2.2.2.2.2.2.2.2.2.2.2.1 y.2.2.2.2.2.2.2.2.2.2.2.2.2.1 y.2.2.2.2.2.2.2.2.2.2.2.2.2.2.1 y.2.2.2.2.2.2.2.2.2.2.2.2.2.2.2.1 y.2.2.2.2.2.2.2.2.2.2.2.2.2.2.2.2.1 y.2.2.2.2.2.2.2.2.2.2.2.2.2.2.2.2.2.1 y.2.2.2.2.2.2.2.2.2.2.2.2.2.2.2.2.2.2.1 y.2.2.2.2.2.2.2.2.2.2.2.2.2.2.2.2.2.2.2.1 y.2.2.2.2.2.2.2.2.2.2.2.2.2.2.2.2.2.2.2.2.1 y.2.2.2.2.2.2.2.2.2.2.2.2.2.2.2.2.2.2.2.2.2.1 y.2.2.2.2.2.2.2.2.2.2.2.2.2.2.2.2.2.2.2.2.2.2.1 y.2.2.2.2.2.2.2.2.2.2.2.2.2.2.2.2.2.2.2.2.2.2.2.1 y.2.2.2.2.2.2.2.2.2.2.2.2.2.2.2.2.2.2.2.2.2.2.2.2.1 y.2.2.2.2.2.2.2.2.2.2.2.2.2.2.2.2.2.2.2.2.2.2.2.2.2.1 y.2.2.2.2.2.2.2.2.2.2.2.2.2.2.2.2.2.2.2.2.2.2.2.2.2.2.1 y.2.2.2.2.2.2.2.2.2.2.2.2.2.2.2.2.2.2.2.2.2.2.2.2.2.2.2.1 y.2.2.2.2.2.2.2.2.2.2.2.2.2.2.2.2.2.2.2.2.2.2.2.2.2.2.2.2.1 y.2.2.2.2.2.2.2.2.2.2.2.2.2.2.2.2.2.2.2.2.2.2.2.2.2.2.2.2.2.1 y.2.2.2.2.2.2.2.2.2.2.2.2.2.2.2.2.2.2.2.2.2.2.2.2.2.2.2.2.2.2.1 y.2.2.2.2.2.2.2.2.2.2.2.2.2.2.2.2.2.2.2.2.2.2.2.2.2.2.2.2.2.2.2.1 y.2.2.2.2.2.2.2.2.2.2.2.2.2.2.2.2.2.2.2.2.2.2.2.2.2.2.2.2.2.2.2.2.1 y.2.2.2.2.2.2.2.2.2.2.2.2.2.2.2.2.2.2.2.2.2.2.2.2.2.2.2.2.2.2.2.2.2.1 y.2.2.2.2.2.2.2.2.2.2.2.2.2.2.2.2.2.2.2.2.2.2.2.2.2.2.2.2.2.2.2.2.2.2.1 y.2.2.2.2.2.2.2.2.2.2.2.2.2.2.2.2.2.2.2.2.2.2.2.2.2.2.2.2.2.2.2.2.2.2.2.1 y.2.2.2.2.2.2.2.2.2.2.2.2.2.2.2.2.2.2.2.2.2.2.2.2.2.2.2.2.2.2.2.2.2.2.2.2.1 y.2.2.2.2.2.2.2.2.2.2.2.2.2.2.2.2.2.2.2.2.2.2.2.2.2.2.2.2.2.2.2.2.2.2.2.2.2.1 y.2.2.2.2.2.2.2.2.2.2.2.2.2.2.2.2.2.2.2.2.2.2.2.2.2.2.2.2.2.2.2.2.2.2.2.2.2.2.1 y.2.2.2.2.2.2.2.2.2.2.2.2.2.2.2.2.2.2.2.2.2.2.2.2.2.2.2.2.2.2.2.2.2.2.2.2.2.2.2.1 y.2.2.2.2.2.2.2.2.2.2.2.2.2.2.2.2.2.2.2.2.2.2.2.2.2.2.2.2.2.2.2.2.2.2.2.2.2.2.2.2
@[irreducible] noncomputable def op_0 : Obj := kk.1
@[irreducible] noncomputable def o2p_0 : Obj := kk.2.1
@[irreducible] noncomputable def o9_5 : Obj := kk.2.2.1
@[irreducible] noncomputable def dg9_5 : Int := kk.2.2.2.1
@[irreducible] noncomputable def o9_4 : Obj := kk.2.2.2.2.1
@[irreducible] noncomputable def tk9_9 : Nat := kk.2.2.2.2.2.1
@[irreducible] noncomputable def dg9_4 : Int := kk.2.2.2.2.2.2.1
@[irreducible] noncomputable def o9_3 : Obj := kk.2.2.2.2.2.2.2.1
@[irreducible] noncomputable def tk9_8 : Nat := kk.2.2.2.2.2.2.2.2.1
@[irreducible] noncomputable def dg9_3 : Int := kk.2.2.2.2.2.2.2.2.2.1
@[irreducible] noncomputable def o9_2 : Obj := kk.2.2.2.2.2.2.2.2.2.2.1
@[irreducible] noncomputable def dg9_2 : Int := kk.2.2.2.2.2.2.2.2.2.2.2.1
@[irreducible] noncomputable def t9_4 : Tok := kk.2.2.2.2.2.2.2.2.2.2.2.2.1
@[irreducible] noncomputable def o9_1 : Obj := kk.2.2.2.2.2.2.2.2.2.2.2.2.2.1
@[irreducible] noncomputable def dg9_1 : Int := kk.2.2.2.2.2.2.2.2.2.2.2.2.2.2.1
@[irreducible] noncomputable def t9_3 : Tok := kk.2.2.2.2.2.2.2.2.2.2.2.2.2.2.2.1
@[irreducible] noncomputable def o9_0 : Obj := kk.2.2.2.2.2.2.2.2.2.2.2.2.2.2.2.2.1
@[irreducible] noncomputable def dg9_0 : Int := kk.2.2.2.2.2.2.2.2.2.2.2.2.2.2.2.2.2.1
@[irreducible] noncomputable def t9_2 : Tok := kk.2.2.2.2.2.2.2.2.2.2.2.2.2.2.2.2.2.2.1
@[irreducible] noncomputable def la9_0 : Addr := kk.2.2.2.2.2.2.2.2.2.2.2.2.2.2.2.2.2.2.2.1
@[irreducible] noncomputable def fa9_1 : Addr := kk.2.2.2.2.2.2.2.2.2.2.2.2.2.2.2.2.2.2.2.2.1
@[irreducible] noncomputable def u1_1 : Tok := kk.2.2.2.2.2.2.2.2.2.2.2.2.2.2.2.2.2.2.2.2.2.1
@[irreducible] noncomputable def u2_1 : Tok := kk.2.2.2.2.2.2.2.2.2.2.2.2.2.2.2.2.2.2.2.2.2.2.1
@[irreducible] noncomputable def u3_1 : Tok := kk.2.2.2.2.2.2.2.2.2.2.2.2.2.2.2.2.2.2.2.2.2.2.2.1
@[irreducible] noncomputable def u4_1 : Tok := kk.2.2.2.2.2.2.2.2.2.2.2.2.2.2.2.2.2.2.2.2.2.2.2.2.1
@[irreducible] noncomputable def u5_1 : Tok := kk.2.2.2.2.2.2.2.2.2.2.2.2.2.2.2.2.2.2.2.2.2.2.2.2.2.1
@[irreducible] noncomputable def u6_1 : Tok := kk.2.2.2.2.2.2.2.2.2.2.2.2.2.2.2.2.2.2.2.2.2.2.2.2.2.2.1
@[irreducible] noncomputable def u7_1 : Tok := kk.2.2.2.2.2.2.2.2.2.2.2.2.2.2.2.2.2.2.2.2.2.2.2.2.2.2.2.1
@[irreducible] noncomputable def u8_1 : Tok := kk.2.2.2.2.2.2.2.2.2.2.2.2.2.2.2.2.2.2.2.2.2.2.2.2.2.2.2.2.1
@[irreducible] noncomputable def u9_1 : Tok := kk.2.2.2.2.2.2.2.2.2.2.2.2.2.2.2.2.2.2.2.2.2.2.2.2.2.2.2.2.2.1
@[irreducible] noncomputable def u10_0 : Tok := kk.2.2.2.2.2.2.2.2.2.2.2.2.2.2.2.2.2.2.2.2.2.2.2.2.2.2.2.2.2.2.1
@[irreducible] noncomputable def u11_0 : Tok := kk.2.2.2.2.2.2.2.2.2.2.2.2.2.2.2.2.2.2.2.2.2.2.2.2.2.2.2.2.2.2.2.1
@[irreducible] noncomputable def n9_1 : Nat := kk.2.2.2.2.2.2.2.2.2.2.2.2.2.2.2.2.2.2.2.2.2.2.2.2.2.2.2.2.2.2.2.2.1
@[irreducible] noncomputable def g9_0 : Heap := kk.2.2.2.2.2.2.2.2.2.2.2.2.2.2.2.2.2.2.2.2.2.2.2.2.2.2.2.2.2.2.2.2.2.1
@[irreducible] noncomputable def x9_0 : Addr := kk.2.2.2.2.2.2.2.2.2.2.2.2.2.2.2.2.2.2.2.2.2.2.2.2.2.2.2.2.2.2.2.2.2.2.1
@[irreducible] noncomputable def dx9_0 : Addr := kk.2.2.2.2.2.2.2.2.2.2.2.2.2.2.2.2.2.2.2.2.2.2.2.2.2.2.2.2.2.2.2.2.2.2.2.1
@[irreducible] noncomputable def D9_0 : Obj := kk.2.2.2.2.2.2.2.2.2.2.2.2.2.2.2.2.2.2.2.2.2.2.2.2.2.2.2.2.2.2.2.2.2.2.2.2.1
@[irreducible] noncomputable def hp_0 : Heap := kk.2.2.2.2.2.2.2.2.2.2.2.2.2.2.2.2.2.2.2.2.2.2.2.2.2.2.2.2.2.2.2.2.2.2.2.2.2.1
@[irreducible] noncomputable def tk : Nat := kk.2.2.2.2.2.2.2.2.2.2.2.2.2.2.2.2.2.2.2.2.2.2.2.2.2.2.2.2.2.2.2.2.2.2.2.2.2.2.1
@[irreducible] noncomputable def a : Int := kk.2.2.2.2.2.2.2.2.2.2.2.2.2.2.2.2.2.2.2.2.2.2.2.2.2.2.2.2.2.2.2.2.2.2.2.2.2.2.2.1
@[irreducible] noncomputable def b : Int := kk.2.2.2.2.2.2.2.2.2.2.2.2.2.2.2.2.2.2.2.2.2.2.2.2.2.2.2.2.2.2.2.2.2.2.2.2.2.2.2.2
end SA
theorem SB.un {A0 A1 A2 A3 A4 A5 : Type} {F : A0 → A1 → A2 → A3 → A4 → A5 → Prop} (h : ∀ y : A0 × A1 × A2 × A3 × A4 × A5, F y.1 y.2.1 y.2.2.1 y.2.2.2.1 y.2.2.2.2.1 y.2.2.2.2.2) : ∀ (x0 : A0) (x1 : A1) (x2 : A2) (x3 : A3) (x4 : A4) (x5 : A5), F x0 x1 x2 x3 x4 x5 :=
  fun x0 x1 x2 x3 x4 x5 => h (x0, x1, x2, x3, x4, x5)
open SrH SA in
noncomputable def SB.cut : Σ' (F : (Array UInt8) → Tok → (List Int) → Obj → Heap → Nat → Prop), ((∀ (x0 : Array UInt8) (x1 : Tok) (x2 : List Int) (x3 : Obj) (x4 : Heap) (x5 : Nat), F x0 x1 x2 x3 x4 x5) → SA.cut.1 SA.op_0 SA.o2p_0 SA.o9_5 SA.dg9_5 SA.o9_4 SA.tk9_9 SA.dg9_4 SA.o9_3 SA.tk9_8 SA.dg9_3 SA.o9_2 SA.dg9_2 SA.t9_4 SA.o9_1 SA.dg9_1 SA.t9_3 SA.o9_0 SA.dg9_0 SA.t9_2 SA.la9_0 SA.fa9_1 SA.u1_1 SA.u2_1 SA.u3_1 SA.u4_1 SA.u5_1 SA.u6_1 SA.u7_1 SA.u8_1 SA.u9_1 SA.u10_0 SA.u11_0 SA.n9_1 SA.g9_0 SA.x9_0 SA.dx9_0 SA.D9_0 SA.hp_0 SA.tk SA.a SA.b) := by
  apply PSigma.mk
  focus
    intro hK 
    intro hr hp hk B X l1 T XB TB D hd hu pL c1 c2 d1p_0 d2p_0 hp9_5 lo9_5 hi9_5 hp9_4 lo9_4 hi9_4 hp9_3 lo9_3 hi9_3 hp9_2 lo9_2 hi9_2 hp9_1 lo9_1 hi9_1 hp9_0 lo9_0 hi9_0 lx9_1 lx9_0 B5_0 X5_0 T5_0 D5_0 Tn6_0 q1 q2 q3 q4 hc2 hd2 he2 ha ha2 hb hb2 ok9_0 hD9_0 Fp_0 N2
    refine wpC_Assign_Name ?_
    refine wpC_MethodCall ?_
    k_steps
    (try dsimp only [List.cons_append, List.nil_append])
    k_dflt (refine' CtrC.use (c_octets _ _ _ _ _ _ _ _ _ _ ?hD ?a1 ?a2 ?a3 ?a4 ?a5 ?a6 ?a7 ?a8 ?a9 ?a10 ?ok) ?zB ?zF ?zX ?zN ?zT ?zs ?zf ?zk ?zd ?zu ?_)
    walk_at "nz zz"
    (case zs => exact sub_rfl)
    (case hD => assumption)
    (case a1 => omega)
    (case a2 => omega)
    (case a3 => omega)
    (case a4 => omega)
    (case a5 => omega)
    (case a6 => omega)
    (case a7 => omega)
    (case a8 => omega)
    (case a9 => omega)
    (case a10 => omega)
    (case ok => assumption)
    intro r9 l9 h9 tk9 hP F9 N9
    obtain ⟨b9, t9, e9, hb9, e8⟩ := hP
    subst e9
    subst e8
    obtain ⟨ks, hks⟩ : ∃ ks, pws (wordsI a b dg9_2 dg9_1 dg9_0) 9 (List.replicate a.toNat 0) = ks := ⟨_, rfl⟩
    rw [hks] at hb9
    have hkl : ks.length = a.toNat := by rw [← hks, pws_length, List.length_replicate]
    have hk36 : 36 ≤ a := ok9_0.2.2.1
    have hza : (ks.length : Int) = a := by omega
    have hz1 : 36 ≤ ks.length := by omega
    have hz2 : ks.length ≤ 2000 := by omega
    clear hkl
    (try dsimp only at N9)
    (try dsimp only)
    (try k_sweep)
    (try k_fold)
    walk1
    refine wpC_any ?_
    k_fold
    walk_at "nz stops"
    all_goals first
      | exact absurd hza (by assumption)
      | ((rename ¬ (List.map _ _ = _) => z9); exact absurd ((rk_list (word_bound hb9)).trans (words_there hks hk36 (words_small ok9_0 ha2 hb2 hc2 hd2 he2))) z9)
      | skip
    (have b9 := True.intro; have t9 := True.intro; have k9 := True.intro; have hb9 := True.intro; rename_i b9 t9 hb9 v2 v3 v4 v5 v6 v7 v8 v9 v10 v11 v12 v13 v14 v15 v16 v17 v18 v19 v20 v21 v22 v23 v24 v25 v26 v27 v28 v29 v30 v31 v32 v33 v34 v35 v36 v37; clear hb9 k9 t9 b9)
    have N4 := news_sub v31 (l := (p, o9_0) :: (x9_0, instObj 154 dx9_0) :: (dx9_0, D9_0) :: (la9_0, _) :: (yy.L + 1 + 1, op_0) :: (yy.L + 1, v3) :: rest) (by walk_at "nz sub")
    have hw4 := words_there hks hk36 (words_small ok9_0 ha2 hb2 hc2 hd2 he2)
    clear v37 v36 v35 v34 v33 v32 v31 v29 v28 v26 v25 v24 v23 v22 v21 v20 v19 v18 ys v17 v16 v15 v14 v13 v12 v11 v10 v9 v8 ek qk v7 v2 tk9 h9 lx9_0 lx9_1 hi9_0 hi9_1 hp9_1 hi9_2 hp9_2 hi9_3 lo9_3 hp9_3 hi9_4 lo9_4 hp9_4 hi9_5 lo9_5 hp9_5 d2p_0 D T l1 X B hp
    revert hr hk XB TB hd hu pL c1 c2 d1p_0 lo9_2 lo9_1 hp9_0 lo9_0 B5_0 X5_0 T5_0 D5_0 Tn6_0 q1 q2 q3 q4 hc2 hd2 he2 ha ha2 hb hb2 ok9_0 hD9_0 hb9 hks hk36 hza hz1 hz2 v4 v5 v6 v30 N4 hw4
    revert b9 t9 ks v3 v27 tk
    exact hK
namespace SB
noncomputable def kk : (Array UInt8) × Tok × (List Int) × Obj × Heap × Nat := Classical.epsilon fun y => ¬ SB.cut.1 y.1 y.2.1 y.2.2.1 y.2.2.2.1 y.2.2.2.2.1 y.2.2.2.2.2
@[irreducible] noncomputable def b9 : Array UInt8 := kk.1
@[irreducible] noncomputable def t9 : Tok := kk.2.1
@[irreducible] noncomputable def ks : List Int := kk.2.2.1
@[irreducible] noncomputable def v3 : Obj := kk.2.2.2.1
@[irreducible] noncomputable def v27 : Heap := kk.2.2.2.2.1
@[irreducible] noncomputable def tk : Nat := kk.2.2.2.2.2
end SB
theorem SC.un {A0 A1 A2 A3 A4 A5 A6 A7 A8 : Type} {F : A0 → A1 → A2 → A3 → A4 → A5 → A6 → A7 → A8 → Prop} (h : ∀ y : A0 × A1 × A2 × A3 × A4 × A5 × A6 × A7 × A8, F y.1 y.2.1 y.2.2.1 y.2.2.2.1 y.2.2.2.2.1 y.2.2.2.2.2.1 y.2.2.2.2.2.2.1 y.2.2.2.2.2.2.2.1 y.2.2.2.2.2.2.2.2) : ∀ (x0 : A0) (x1 : A1) (x2 : A2) (x3 : A3) (x4 : A4) (x5 : A5) (x6 : A6) (x7 : A7) (x8 : A8), F x0 x1 x2 x3 x4 x5 x6 x7 x8 :=
  fun x0 x1 x2 x3 x4 x5 x6 x7 x8 => h (x0, x1, x2, x3, x4, x5, x6, x7, x8)
open SrH SA SB in
noncomputable def SC.cut : Σ' (F : Heap → Addr → Int → Tok → Obj → Nat → Int → Heap → Nat → Prop), ((∀ (x0 : Heap) (x1 : Addr) (x2 : Int) (x3 : Tok) (x4 : Obj) (x5 : Nat) (x6 : Int) (x7 : Heap) (x8 : Nat), F x0 x1 x2 x3 x4 x5 x6 x7 x8) → SB.cut.1 SB.b9 SB.t9 SB.ks SB.v3 SB.v27 SB.tk) := by
  apply PSigma.mk
  focus
    intro hK 
    intro hr hk XB TB hd hu pL c1 c2 d1p_0 lo9_2 lo9_1 hp9_0 lo9_0 B5_0 X5_0 T5_0 D5_0 Tn6_0 q1 q2 q3 q4 hc2 hd2 he2 ha ha2 hb hb2 ok9_0 hD9_0 hb9 hks hk36 hza hz1 hz2 v4 v5 v6 v30 N4 hw4
    walk1
    walk_at "nz stops"
    (have g9 := True.intro; have Tn5 := True.intro; have sok9 := True.intro; have x9 := True.intro; have dx9 := True.intro; have D9 := True.intro; have lx9 := True.intro; have hD8 := True.intro; have B5 := True.intro; have X5 := True.intro; have T5 := True.intro; have D5 := True.intro; have Tn6 := True.intro; have fa9 := True.intro; have u1 := True.intro; have u2 := True.intro; have u3 := True.intro; have u4 := True.intro; have u5 := True.intro; have u6 := True.intro; have u7 := True.intro; have u8 := True.intro; have u9 := True.intro; have n9 := True.intro; have lt9 := True.intro; have o9 := True.intro; have h9 := True.intro; have tk9 := True.intro; have hp9 := True.intro; have dg9 := True.intro; have t9 := True.intro; have lo9 := True.intro; have hi9 := True.intro; rename_i y2 y3 y4 y5 y6 y7 y8 y9 y10 y11 y12 y13 y14 y15 y16 y17 y18 y19 y20 y21 y22 y23 y24 y25 y26 y27 y28 y29 y30 y31 y32 y33 y34 y35 y36 y37 y38 y39 y40 y41 y42 y43 y44 y45 y46 y47 y48 y49 y50 y51 y52 y53 y54 y55 y56 y57 y58 y59 y60 y61 y62 y63 y64 y65 y66 y67; clear hi9 lo9 t9 dg9 hp9 tk9 h9 o9 lt9 n9 u9 u8 u7 u6 u5 u4 u3 u2 u1 fa9 Tn6 D5 T5 X5 B5 hD8 lx9 D9 dx9 x9 sok9 Tn5 g9)
    have N5 := news_sub y67 (l := (yy.L + 1 + 1, op_0) :: (yy.L + 1, v3) :: (p, y52) :: rest) (by walk_at "nz sub")
    clear y67 y64 y63 y62 y61 y60 ek qk y57 y53 y51 y50 y45 y44 y43 y42 y41 y40 y39 y38 y37 y36 y35 y34 y33 y32 y31 y30 y29 y28 y27 y26 y25 y24 y23 y22 y21 y20 y19 y18 y12 y11 y10 y9 y8 y6 y5 y4 y3 hw4 N4 v30 hks hD9_0 ok9_0 hb2 hb he2 hd2 hc2 q4 q3 q2 q1 Tn6_0 D5_0 T5_0 X5_0 B5_0 lo9_0 hp9_0 lo9_1 lo9_2
    revert hr hk XB TB hd hu pL c1 c2 d1p_0 ha ha2 hb9 hk36 hza hz1 hz2 v4 v5 v6 y13 y14 y15 y16 y17 y48 y49 y55 y58 y59 y66 N5
    revert y2 y7 y46 y47 y52 y54 y56 y65 tk
    exact hK
namespace SC
noncomputable def kk : Heap × Addr × Int × Tok × Obj × Nat × Int × Heap × Nat := Classical.epsilon fun y => ¬ SC.cut.1 y.1 y.2.1 y.2.2.1 y.2.2.2.1 y.2.2.2.2.1 y.2.2.2.2.2.1 y.2.2.2.2.2.2.1 y.2.2.2.2.2.2.2.1 y.2.2.2.2.2.2.2.2
@[irreducible] noncomputable def y2 : Heap := kk.1
@[irreducible] noncomputable def y7 : Addr := kk.2.1
@[irreducible] noncomputable def y46 : Int := kk.2.2.1
@[irreducible] noncomputable def y47 : Tok := kk.2.2.2.1
@[irreducible] noncomputable def y52 : Obj := kk.2.2.2.2.1
@[irreducible] noncomputable def y54 : Nat := kk.2.2.2.2.2.1
@[irreducible] noncomputable def y56 : Int := kk.2.2.2.2.2.2.1
@[irreducible] noncomputable def y65 : Heap := kk.2.2.2.2.2.2.2.1
@[irreducible] noncomputable def tk : Nat := kk.2.2.2.2.2.2.2.2
end SC
theorem SD.un {A0 A1 A2 A3 A4 A5 : Type} {F : A0 → A1 → A2 → A3 → A4 → A5 → Prop} (h : ∀ y : A0 × A1 × A2 × A3 × A4 × A5, F y.1 y.2.1 y.2.2.1 y.2.2.2.1 y.2.2.2.2.1 y.2.2.2.2.2) : ∀ (x0 : A0) (x1 : A1) (x2 : A2) (x3 : A3) (x4 : A4) (x5 : A5), F x0 x1 x2 x3 x4 x5 :=
  fun x0 x1 x2 x3 x4 x5 => h (x0, x1, x2, x3, x4, x5)
open SrH SA SB SC in
noncomputable def SD.cut : Σ' (F : (Array UInt8) → Tok → Heap → Obj → Nat → (List Int) → Prop), ((∀ (x0 : Array UInt8) (x1 : Tok) (x2 : Heap) (x3 : Obj) (x4 : Nat) (x5 : List Int), F x0 x1 x2 x3 x4 x5) → SC.cut.1 SC.y2 SC.y7 SC.y46 SC.y47 SC.y52 SC.y54 SC.y56 SC.y65 SC.tk) := by
  apply PSigma.mk
  focus
    intro hK 
    intro hr hk XB TB hd hu pL c1 c2 d1p_0 ha ha2 hb9 hk36 hza hz1 hz2 v4 v5 v6 y13 y14 y15 y16 y17 y48 y49 y55 y58 y59 y66 N5
    walk1
    walk_at "nz stops"
    (have kbaIn := True.intro; have kbaE := True.intro; have b9 := True.intro; have t9 := True.intro; have k9 := True.intro; have hb9 := True.intro; rename_i z2 z3 z4 z5 z6 z7 z8 z9 z10 z11 z12 z13 z14 z15 z16 z17 z18 z19 z20 z21 z22 z23 z24 z25 z26 z27 z28 z29 z30 z31 z32 z33 z34; clear hb9 k9 t9 b9 kbaE kbaIn)
    obtain ⟨kt, hbt, hlt6⟩ : ∃ kt, KBw.bInts z26 = kt ∧ kt.length = ks.length := ⟨_, z29, turned_len y48 (by omega)⟩
    have hzt : (kt.length : Int) = a := by omega
    have hzt1 : 36 ≤ kt.length := by omega
    have hzt2 : kt.length ≤ 2000 := by omega
    have N6 := news_sub z33 (l := (yy.L + 1 + 1, z31) :: (yy.L + 1, v3) :: (p, y52) :: rest) (by walk_at "nz sub")
    clear hlt6 z33 z29 z28 z25 z24 z23 z22 z21 z20 z19 z18 z17 z16 z15 z14 z13 z12 z11 z10 z9 z8 z7 z6 z5 z4 z3 z2 y59 y58 y49 y48 hk36 d1p_0
    revert hr hk XB TB hd hu pL c1 c2 ha ha2 hb9 hza hz1 hz2 v4 v5 v6 y13 y14 y15 y16 y17 y55 z32 z34 hbt hzt hzt1 hzt2 N6
    revert z26 z27 z30 z31 tk kt
    exact hK
namespace SD
noncomputable def kk : (Array UInt8) × Tok × Heap × Obj × Nat × (List Int) := Classical.epsilon fun y => ¬ SD.cut.1 y.1 y.2.1 y.2.2.1 y.2.2.2.1 y.2.2.2.2.1 y.2.2.2.2.2
@[irreducible] noncomputable def z26 : Array UInt8 := kk.1
@[irreducible] noncomputable def z27 : Tok := kk.2.1
@[irreducible] noncomputable def z30 : Heap := kk.2.2.1
@[irreducible] noncomputable def z31 : Obj := kk.2.2.2.1
@[irreducible] noncomputable def tk : Nat := kk.2.2.2.2.1
@[irreducible] noncomputable def kt : List Int := kk.2.2.2.2.2
end SD
open SrH SA SB SC SD in
theorem SD.main : SD.cut.1 SD.z26 SD.z27 SD.z30 SD.z31 SD.tk SD.kt := by
  intro hr hk XB TB hd hu pL c1 c2 ha ha2 hb9 hza hz1 hz2 v4 v5 v6 y13 y14 y15 y16 y17 y55 z32 z34 hbt hzt hzt1 hzt2 N6
  walk1
  walk_at "nz stops"
  {
    (have g9 := True.intro; have h9 := True.intro; have tk9 := True.intro; have Tn5 := True.intro; have sok9 := True.intro; have x9 := True.intro; have dx9 := True.intro; have D9 := True.intro; have lx9 := True.intro; have hD9 := True.intro; have lt9 := True.intro; have B5 := True.intro; have X5 := True.intro; have T5 := True.intro; have D5 := True.intro; have Tn6 := True.intro; rename_i j2 j3 j4 j5 j6 j7 j8 j9 j10 j11 j12 j13 j14 j15 j16 j17 j18 j19 j20 j21 j22 j23 j24 j25 j26 j27 j28 j29 j30 j31 j32 j33 j34 j35 j36 j37 j38 j39 j40 j41 j42 j43; clear Tn6 D5 T5 X5 B5 lt9 hD9 lx9 D9 dx9 x9 sok9 Tn5 tk9 h9 g9)
    have wb7 := word_bound hbt
    rw [rk_list wb7] at j12
    have p1 := wb7 4
    have p3 := wb7 12
    have p4 := wb7 16
    have p8 := wb7 32
    have h35 := short35 ks
    have okt : okI a (wordI kt 4) (wordI kt 12) (wordI kt 16) (wordI kt 32) := hzt ▸ j24.2.2.1
    have ewt : wordsI a (wordI kt 4) (wordI kt 12) (wordI kt 16) (wordI kt 32) = wordsAt kt := hzt ▸ j24.2.2.2
    have N7 := news_sub j43 (l := (j14, LCg.lst ys) :: (yy.L + 1 + 1, z31) :: (yy.L + 1, v3) :: (p, y52) :: rest) (by walk_at "nz sub")
    clear wb7 j43 j40 j39 j38 j37 j36 j30 j29 j28 j27 j26 j24 j23 j22 j21 j18 j17 j16 j15 j13 j11 j10 j9 j8 j7 j6 j5 j4 j3 j2 hzt2 hzt1 hzt hbt z34 y17 y16 y15 y14 y13 hz1 hza
    walk1
    walk_at "nz stops"
    all_goals first
      | ((with_reducible rename (true == decide _) = false => z9); exact (eq_yes z9 ewt).elim)
      | skip
    {
      walk_at "nz outX"
      case P => exact ⟨rfl, _, IsPool.le (by assumption) (by omega), rfl⟩
      case N => walk_at "nz news"
    }
  }
  {
    (have g9 := True.intro; have h9 := True.intro; have tk9 := True.intro; have Tn5 := True.intro; have nok9 := True.intro; have B5 := True.intro; have X5 := True.intro; have T5 := True.intro; have D5 := True.intro; have Tn6 := True.intro; rename_i j2 j3 j4 j5 j6 j7 j8 j9 j10 j11 j12 j13 j14 j15 j16 j17 j18 j19 j20 j21 j22 j23 j24 j25 j26 j27 j28 j29 j30 j31 j32 j33 j34 j35 j36 j37; clear Tn6 D5 T5 X5 B5 nok9 Tn5 tk9 h9 g9)
    have wb7 := word_bound hbt
    rw [rk_list wb7] at j12
    have p1 := wb7 4
    have p3 := wb7 12
    have p4 := wb7 16
    have p8 := wb7 32
    have h35 := short35 ks
    have N7 := news_sub j37 (l := (j14, LCg.lst ys) :: (yy.L + 1 + 1, z31) :: (yy.L + 1, v3) :: (p, y52) :: rest) (by walk_at "nz sub")
    clear wb7 j37 j34 j33 j32 j31 j30 j23 j22 j21 j18 j17 j16 j15 j13 j11 j10 j9 j8 j7 j6 j5 j4 j3 j2 hzt2 hbt z34 y17 y16 y15 y14 y13 hz1 hza
    walk1
    walk_at "nz stops"
    all_goals first
      | ((with_reducible rename (false == decide _) = false => z9); exact absurd (own_there hzt hzt1 (by assumption) (eq_no z9)) j24)
      | skip
    {
      walk_at "nz outX"
      case P => exact ⟨rfl, _, IsPool.le (by assumption) (by omega), rfl⟩
      case N => walk_at "nz news"
    }
    {
      walk_at "nz outX"
      case P => exact ⟨rfl, _, IsPool.le (by assumption) (by omega), rfl⟩
      case N => walk_at "nz news"
    }
  }
theorem SD.fin : ∀ (x0 : Array UInt8) (x1 : Tok) (x2 : Heap) (x3 : Obj) (x4 : Nat) (x5 : List Int), SD.cut.1 x0 x1 x2 x3 x4 x5 :=
  SD.un (F := SD.cut.1) (henk (P := fun (y : (Array UInt8) × Tok × Heap × Obj × Nat × (List Int)) => SD.cut.1 y.1 y.2.1 y.2.2.1 y.2.2.2.1 y.2.2.2.2.1 y.2.2.2.2.2) (by with_unfolding_all exact SD.main))
open SrH SA SB SC in
theorem SC.main : SC.cut.1 SC.y2 SC.y7 SC.y46 SC.y47 SC.y52 SC.y54 SC.y56 SC.y65 SC.tk :=
  SD.cut.2 SD.fin
theorem SC.fin : ∀ (x0 : Heap) (x1 : Addr) (x2 : Int) (x3 : Tok) (x4 : Obj) (x5 : Nat) (x6 : Int) (x7 : Heap) (x8 : Nat), SC.cut.1 x0 x1 x2 x3 x4 x5 x6 x7 x8 :=
  SC.un (F := SC.cut.1) (henk (P := fun (y : Heap × Addr × Int × Tok × Obj × Nat × Int × Heap × Nat) => SC.cut.1 y.1 y.2.1 y.2.2.1 y.2.2.2.1 y.2.2.2.2.1 y.2.2.2.2.2.1 y.2.2.2.2.2.2.1 y.2.2.2.2.2.2.2.1 y.2.2.2.2.2.2.2.2) (by with_unfolding_all exact SC.main))
open SrH SA SB in
theorem SB.main : SB.cut.1 SB.b9 SB.t9 SB.ks SB.v3 SB.v27 SB.tk :=
  SC.cut.2 SC.fin
theorem SB.fin : ∀ (x0 : Array UInt8) (x1 : Tok) (x2 : List Int) (x3 : Obj) (x4 : Heap) (x5 : Nat), SB.cut.1 x0 x1 x2 x3 x4 x5 :=
  SB.un (F := SB.cut.1) (henk (P := fun (y : (Array UInt8) × Tok × (List Int) × Obj × Heap × Nat) => SB.cut.1 y.1 y.2.1 y.2.2.1 y.2.2.2.1 y.2.2.2.2.1 y.2.2.2.2.2) (by with_unfolding_all exact SB.main))
open SrH SA in
theorem SA.main : SA.cut.1 SA.op_0 SA.o2p_0 SA.o9_5 SA.dg9_5 SA.o9_4 SA.tk9_9 SA.dg9_4 SA.o9_3 SA.tk9_8 SA.dg9_3 SA.o9_2 SA.dg9_2 SA.t9_4 SA.o9_1 SA.dg9_1 SA.t9_3 SA.o9_0 SA.dg9_0 SA.t9_2 SA.la9_0 SA.fa9_1 SA.u1_1 SA.u2_1 SA.u3_1 SA.u4_1 SA.u5_1 SA.u6_1 SA.u7_1 SA.u8_1 SA.u9_1 SA.u10_0 SA.u11_0 SA.n9_1 SA.g9_0 SA.x9_0 SA.dx9_0 SA.D9_0 SA.hp_0 SA.tk SA.a SA.b :=
  SB.cut.2 SB.fin
theorem SA.fin : ∀ (x0 : Obj) (x1 : Obj) (x2 : Obj) (x3 : Int) (x4 : Obj) (x5 : Nat) (x6 : Int) (x7 : Obj) (x8 : Nat) (x9 : Int) (x10 : Obj) (x11 : Int) (x12 : Tok) (x13 : Obj) (x14 : Int) (x15 : Tok) (x16 : Obj) (x17 : Int) (x18 : Tok) (x19 : Addr) (x20 : Addr) (x21 : Tok) (x22 : Tok) (x23 : Tok) (x24 : Tok) (x25 : Tok) (x26 : Tok) (x27 : Tok) (x28 : Tok) (x29 : Tok) (x30 : Tok) (x31 : Tok) (x32 : Nat) (x33 : Heap) (x34 : Addr) (x35 : Addr) (x36 : Obj) (x37 : Heap) (x38 : Nat) (x39 : Int) (x40 : Int), SA.cut.1 x0 x1 x2 x3 x4 x5 x6 x7 x8 x9 x10 x11 x12 x13 x14 x15 x16 x17 x18 x19 x20 x21 x22 x23 x24 x25 x26 x27 x28 x29 x30 x31 x32 x33 x34 x35 x36 x37 x38 x39 x40 :=
  SA.un (F := SA.cut.1) (henk (P := fun (y : Obj × Obj × Obj × Int × Obj × Nat × Int × Obj × Nat × Int × Obj × Int × Tok × Obj × Int × Tok × Obj × Int × Tok × Addr × Addr × Tok × Tok × Tok × Tok × Tok × Tok × Tok × Tok × Tok × Tok × Tok × Nat × Heap × Addr × Addr × Obj × Heap × Nat × Int × Int) => SA.cut.1 y.1 y.2.1 y.2.2.1 y.2.2.2.1 y.2.2.2.2.1 y.2.2.2.2.2.1 y.2.2.2.2.2.2.1 y.2.2.2.2.2.2.2.1 y.2.2.2.2.2.2.2.2.1 y.2.2.2.2.2.2.2.2.2.1 y.2.2.2.2.2.2.2.2.2.2.1 y.2.2.2.2.2.2.2.2.2.2.2.1 y.2.2.2.2.2.2.2.2.2.2.2.2.1 y.2.2.2.2.2.2.2.2.2.2.2.2.2.1 y.2.2.2.2.2.2.2.2.2.2.2.2.2.2.1 y.2.2.2.2.2.2.2.2.2.2.2.2.2.2.2.1 y.2.2.2.2.2.2.2.2.2.2.2.2.2.2.2.2.1 y.2.2.2.2.2.2.2.2.2.2.2.2.2.2.2.2.2.1 y.2.2.2.2.2.2.2.2.2.2.2.2.2.2.2.2.2.2.1 y.2.2.2.2.2.2.2.2.2.2.2.2.2.2.2.2.2.2.2.1 y.2.2.2.2.2.2.2.2.2.2.2.2.2.2.2.2.2.2.2.2.1 y.2.2.2.2.2.2.2.2.2.2.2.2.2.2.2.2.2.2.2.2.2.1 y.2.2.2.2.2.2.2.2.2.2.2.2.2.2.2.2.2.2.2.2.2.2.1 y.2.2.2.2.2.2.2.2.2.2.2.2.2.2.2.2.2.2.2.2.2.2.2.1 y.2.2.2.2.2.2.2.2.2.2.2.2.2.2.2.2.2.2.2.2.2.2.2.2.1 y.2.2.2.2.2.2.2.2.2.2.2.2.2.2.2.2.2.2.2.2.2.2.2.2.2.1 y.2.2.2.2.2.2.2.2.2.2.2.2.2.2.2.2.2.2.2.2.2.2.2.2.2.2.1 y.2.2.2.2.2.2.2.2.2.2.2.2.2.2.2.2.2.2.2.2.2.2.2.2.2.2.2.1 y.2.2.2.2.2.2.2.2.2.2.2.2.2.2.2.2.2.2.2.2.2.2.2.2.2.2.2.2.1 y.2.2.2.2.2.2.2.2.2.2.2.2.2.2.2.2.2.2.2.2.2.2.2.2.2.2.2.2.2.1 y.2.2.2.2.2.2.2.2.2.2.2.2.2.2.2.2.2.2.2.2.2.2.2.2.2.2.2.2.2.2.1 y.2.2.2.2.2.2.2.2.2.2.2.2.2.2.2.2.2.2.2.2.2.2.2.2.2.2.2.2.2.2.2.1 y.2.2.2.2.2.2.2.2.2.2.2.2.2.2.2.2.2.2.2.2.2.2.2.2.2.2.2.2.2.2.2.2.1 y.2.2.2.2.2.2.2.2.2.2.2.2.2.2.2.2.2.2.2.2.2.2.2.2.2.2.2.2.2.2.2.2.2.1 y.2.2.2.2.2.2.2.2.2.2.2.2.2.2.2.2.2.2.2.2.2.2.2.2.2.2.2.2.2.2.2.2.2.2.1 y.2.2.2.2.2.2.2.2.2.2.2.2.2.2.2.2.2.2.2.2.2.2.2.2.2.2.2.2.2.2.2.2.2.2.2.1 y.2.2.2.2.2.2.2.2.2.2.2.2.2.2.2.2.2.2.2.2.2.2.2.2.2.2.2.2.2.2.2.2.2.2.2.2.1 y.2.2.2.2.2.2.2.2.2.2.2.2.2.2.2.2.2.2.2.2.2.2.2.2.2.2.2.2.2.2.2.2.2.2.2.2.2.1 y.2.2.2.2.2.2.2.2.2.2.2.2.2.2.2.2.2.2.2.2.2.2.2.2.2.2.2.2.2.2.2.2.2.2.2.2.2.2.1 y.2.2.2.2.2.2.2.2.2.2.2.2.2.2.2.2.2.2.2.2.2.2.2.2.2.2.2.2.2.2.2.2.2.2.2.2.2.2.2.1 y.2.2.2.2.2.2.2.2.2.2.2.2.2.2.2.2.2.2.2.2.2.2.2.2.2.2.2.2.2.2.2.2.2.2.2.2.2.2.2.2) (by with_unfolding_all exact SA.main))
open SrH in
theorem SrH.main (hr : ∀ q ∈ rest, q.1 ≠ p) (hp : IsPool o k) (hk : k < 970) : PremD w 269 [.ref p] 60 400 ((p, o) :: rest) (fun r l => r = .bool true ∧ ∃ o', IsPool o' (k + 14) ∧ l = (p, o') :: rest) yy :=
  SA.cut.2 SA.fin hr hp hk
open SrH in
theorem SrH.fin (hr : ∀ q ∈ rest, q.1 ≠ p) (hp : IsPool o k) (hk : k < 970) : CtrD w 269 [.ref p] 60 400 ((p, o) :: rest) (fun r l => r = .bool true ∧ ∃ o', IsPool o' (k + 14) ∧ l = (p, o') :: rest) := by
  have h : ∀ y, PremD w 269 [.ref p] 60 400 ((p, o) :: rest) (fun r l => r = .bool true ∧ ∃ o', IsPool o' (k + 14) ∧ l = (p, o') :: rest) y := henk (SrH.main hr hp hk)
  k_dflt (refine' ctrD_cells (binds := [(Str.ofString "pool", .ref p)]) ?k6 ?k7 ?k9 ?kB ?kD ?c2 ?c3 ?c4 ?_; (case k6 => (with_unfolding_all rfl)); (case k7 => (with_unfolding_all rfl)); (case k9 => exact rfl); (case kB => exact kindsX rfl); (case kD => decide +kernel); (case c2 => exact rfl); (case c3 => exact rfl); (case c4 => exact rfl); k_whole)
  intro mean mg mb dp un gd env outer base g L cells s B F X N Y l1 T XB TB D hd hu
  (with_unfolding_all refine' h ⟨mean, mg, mb, dp, un, gd, env, outer, base, g, L, s⟩ _ _ _ _ _ _ _ _ _ _ _ _ _ _ _ ?k6 ?zcells ?zB ?zF ?zX ?zN ?zY ?zl1 ?zT ?zXB ?zTB ?zD ?zhd ?zhu)
  (case k6 => with_unfolding_all rfl)
  (case zcells => with_unfolding_all exact cells)
  (case zB => with_unfolding_all exact B)
  (case zF => with_unfolding_all exact F)
  (case zX => with_unfolding_all exact X)
  (case zN => with_unfolding_all exact N)
  (case zY => with_unfolding_all exact Y)
  (case zl1 => with_unfolding_all exact l1)
  (case zT => with_unfolding_all exact T)
  (case zXB => with_unfolding_all exact XB)
  (case zTB => with_unfolding_all exact TB)
  (case zD => with_unfolding_all exact D)
  (case zhd => with_unfolding_all exact hd)
  (case zhu => with_unfolding_all exact hu)
theorem c_super_right (w : World) (p : Addr) (o : Obj) (k : Nat) (rest : Led) (hr : ∀ q ∈ rest, q.1 ≠ p) (hp : IsPool o k) (hk : k < 970) : CtrD w 269 [.ref p] 60 400 ((p, o) :: rest) (fun r l => r = .bool true ∧ ∃ o', IsPool o' (k + 14) ∧ l = (p, o') :: rest) := by
  refine henk (P := fun y => SrH.SS y.1 y.2.1 y.2.2.1 y.2.2.2.1 y.2.2.2.2) ?_ (w, p, o, k, rest) hr hp hk
  intro hr hp hk
  with_unfolding_all exact SrH.fin hr hp hk
end
section
local macro_rules | `(tactic| walk_at $s:str) => `(tactic| k_extra $(Lean.Syntax.mkStrLit ("78 " ++ s.getString)))
local macro_rules | `(tactic| walk_at "nz pad") => `(tactic| skip)
theorem off_NzZ1 : True := by
  w_top off
  trivial
open PySem PySem.W PySem.Calls PyProof.Rows
theorem kw0_NzZ1 : True := by
  k_with "78 nz pq" => k_extra "L0"
  k_with "78 nz pn" => k_extra "L1"
  k_with "78 nz pi" => k_extra "L2"
  k_with "78 nz pr" => k_extra "L3"
  k_with "78 nz oo" => k_extra "L4"
  k_with "78 nz zz" => k_extra "L5"
  k_with "78 nz om" => k_extra "L6"
  k_with "78 nz enter" => k_extra "L7"
  k_with "78 nz intro" => k_extra "L8"
  k_with "78 nz go" => k_extra "L9"
  k_with "78 nz end" => k_extra "L10"
  k_with "78 subscriptTail" => k_extra "L11"
  k_with "78 setItem ref int" => k_extra "L12"
  k_with "78 nz side" => k_extra "L13"
  k_with "78 nz pick" => k_extra "L14"
  k_with "78 nz sub" => k_extra "L15"
  k_with "78 nz news" => k_extra "L16"
  k_with "78 nz same" => k_extra "L17"
  k_with "78 nz out" => k_extra "L18"
  k_with "78 nz len" => k_extra "L19"
  k_with "78 getMethod str" => k_extra "L118"
  k_with "78 call builtin:str.encode" => k_extra "L31"
  k_with "78 call type:bytes" => k_extra "L32"
  k_with "78 call type:bytes" => k_extra "L33"
  k_with "78 call type:bytes" => k_extra "L34"
  k_with "78 call builtin:isinstance" => k_extra "L35"
  k_with "78 nz size" => k_extra "L36"
  k_with "78 nz enterC" => k_extra "L40"
  k_with "78 nz introC" => k_extra "L41"
  k_with "78 nz goC" => k_extra "L42"
  k_with "78 nz steps" => k_extra "L43"
  k_with "78 last wpC" => k_extra "L44"
  k_with "78 wpC" => k_extra "L45"
  k_with "78 wpC" => k_extra "L46"
  k_with "78 wpC" => k_extra "L47"
  k_with "78 wpC" => k_extra "L48"
  k_with "78 wpC" => k_extra "L49"
  k_with "78 wpC" => k_extra "L50"
  k_with "78 wpC" => k_extra "L128"
  k_with "78 wpC" => k_extra "L52"
  k_with "78 wpC" => k_extra "L53"
  k_with "78 wpC" => k_extra "L54"
  k_with "78 wpC" => k_extra "L55"
  k_with "78 wpC" => k_extra "L56"
  k_with "78 wpC" => k_extra "L57"
  k_with "78 wpC" => k_extra "L58"
  k_with "78 wpC" => k_extra "L59"
  k_with "78 wpC" => k_extra "L60"
  k_with "78 wpC" => k_extra "L61"
  k_with "78 getMethod ref" => k_extra "L62"
  k_with "78 wpC" => k_extra "L63"
  k_with "78 nz turn" => k_extra "L64"
  k_with "78 call builtin:len" => k_extra "L65"
  k_with "78 nz B" => k_extra "L116"
  k_with "78 binaryOp Add ref ref" => k_extra "L117"
  k_with "78 wpC" => k_extra "L129"
  k_with "78 wpC" => k_extra "L205"
  k_with "78 wpC" => k_extra "L206"
  k_with "78 wpC" => k_extra "L207"
  k_with "78 wpC" => k_extra "L208"
  k_with "78 wpC" => k_extra "L209"
  k_with "78 wpC" => k_extra "L210"
  k_with "78 wpC" => k_extra "L211"
  k_with "78 wpC" => k_extra "L212"
  k_with "78 wpC" => k_extra "L213"
  k_with "78 wpC" => k_extra "L214"
  k_with "78 wpC" => k_extra "L215"
  k_with "78 wpC" => k_extra "L216"
  k_with "78 wpC" => k_extra "L217"
  k_with "78 wpC" => k_extra "L218"
  k_with "78 wpC" => k_extra "L219"
  k_with "78 call ref" => k_extra "L220"
  k_with "78 wpC" => k_extra "L221"
  k_with "78 wpC" => k_extra "L222"
  k_with "78 isTrue BoolOp" => k_extra "L105"
  k_with "78 nz lawfor1" => k_extra "L223"
  k_with "78 nz lawfor4" => k_extra "L224"
  trivial
theorem ZA.un {A0 A1 A2 A3 A4 A5 A6 A7 A8 A9 A10 A11 A12 A13 A14 A15 A16 : Type} {F : A0 → A1 → A2 → A3 → A4 → A5 → A6 → A7 → A8 → A9 → A10 → A11 → A12 → A13 → A14 → A15 → A16 → Prop} (h : ∀ y : A0 × A1 × A2 × A3 × A4 × A5 × A6 × A7 × A8 × A9 × A10 × A11 × A12 × A13 × A14 × A15 × A16, F y.1 y.2.1 y.2.2.1 y.2.2.2.1 y.2.2.2.2.1 y.2.2.2.2.2.1 y.2.2.2.2.2.2.1 y.2.2.2.2.2.2.2.1 y.2.2.2.2.2.2.2.2.1 y.2.2.2.2.2.2.2.2.2.1 y.2.2.2.2.2.2.2.2.2.2.1 y.2.2.2.2.2.2.2.2.2.2.2.1 y.2.2.2.2.2.2.2.2.2.2.2.2.1 y.2.2.2.2.2.2.2.2.2.2.2.2.2.1 y.2.2.2.2.2.2.2.2.2.2.2.2.2.2.1 y.2.2.2.2.2.2.2.2.2.2.2.2.2.2.2.1 y.2.2.2.2.2.2.2.2.2.2.2.2.2.2.2.2) : ∀ (x0 : A0) (x1 : A1) (x2 : A2) (x3 : A3) (x4 : A4) (x5 : A5) (x6 : A6) (x7 : A7) (x8 : A8) (x9 : A9) (x10 : A10) (x11 : A11) (x12 : A12) (x13 : A13) (x14 : A14) (x15 : A15) (x16 : A16), F x0 x1 x2 x3 x4 x5 x6 x7 x8 x9 x10 x11 x12 x13 x14 x15 x16 :=
  fun x0 x1 x2 x3 x4 x5 x6 x7 x8 x9 x10 x11 x12 x13 x14 x15 x16 => h (x0, x1, x2, x3, x4, x5, x6, x7, x8, x9, x10, x11, x12, x13, x14, x15, x16)
noncomputable def ZA.cut : Σ' (F : World → Shared → Shared → (Str → Option Value) → (Str → Option Value) → Addr → Obj → Value → Value → Value → (List Int) → (List Addr) → (List Addr) → Addr → (List Value) → (List Addr) → Heap → Prop), ((∀ y : World × Shared × Shared × (Str → Option Value) × (Str → Option Value) × Addr × Obj × Value × Value × Value × (List Int) × (List Addr) × (List Addr) × Addr × (List Value) × (List Addr) × Heap, F y.1 y.2.1 y.2.2.1 y.2.2.2.1 y.2.2.2.2.1 y.2.2.2.2.2.1 y.2.2.2.2.2.2.1 y.2.2.2.2.2.2.2.1 y.2.2.2.2.2.2.2.2.1 y.2.2.2.2.2.2.2.2.2.1 y.2.2.2.2.2.2.2.2.2.2.1 y.2.2.2.2.2.2.2.2.2.2.2.1 y.2.2.2.2.2.2.2.2.2.2.2.2.1 y.2.2.2.2.2.2.2.2.2.2.2.2.2.1 y.2.2.2.2.2.2.2.2.2.2.2.2.2.2.1 y.2.2.2.2.2.2.2.2.2.2.2.2.2.2.2.1 y.2.2.2.2.2.2.2.2.2.2.2.2.2.2.2.2) → PySem.Challenge.rw_nz0212_01.Holds) := by
  apply PSigma.mk
  intro hK 
  refine NzH.hd (by rfl) (by rfl) (by rfl) ?_
  k_fill
  intro w s₀ s₁ mg mb G Y fa o pm cd doc dV kV ho hd hcd hD hmg hg args vals as hpre hlay hrd hwl hlo
  have KX : (NzH.hd.heap_39 w.params).In s₁.heap := Y
  have X := (Ground.X G).1
  have V := (Ground.X G).2
  refine Ground.open G ?_
  intro T B D TE TW
  have TA := at_of_top T
  wrow_args hpre hlay hrd hwl hlo
  (rename Heap.IsList _ _ _ => hL)
  (rename IntsAre _ _ => hI)
  (rename ¬ _ < _ => h63)
  have he := Dflts.none hD rfl
  subst he
  have he := Dflts.noKw hD
  subst he
  k_dflt (refine' codeC_enter (binds := [(Str.ofString "script", _)]) ?hroom ho hd (Top.nolimit T) hcd ?hfd ?hb ?hl (fun h₁ F => ?_) ?c1 ?c2 ?c3 ?c4; (case hroom => decide); (case hfd => rfl); (case hb => exact rfl); (case hl => exact locs rfl); (case c1 => rfl); (case c2 => rfl); (case c3 => rfl); (case c4 => decide); k_whole)
  have B0 := below_caller s₁.heap
  have N : News s₁.heap s₁.heap.objs.size h₁ [] := News.nil.at F
  clear Y ho hd hcd hD hmg X V B D TE TW TA
  have hd0 : callerA.depth + 100 < recursionLimit := by decide
  have hu0 : callerA.units + 1000 < cLine := by decide
  (try dsimp only)
  rename_i z1_ z2_ z3_ z4_ z5_ z6_ z7_ z8_ z9_ z10_ z11_ z12_ z13_ z14_ z15_ z16_
  revert G hg KX T z2_ z3_ z4_ z5_ z6_ hL z12_ z13_ z14_ hI z15_ h63 z16_ F B0 N hd0 hu0
  revert w s₀ s₁ mg mb fa o pm cd doc z1_ z7_ z8_ z9_ z10_ z11_ h₁
  exact (ZA.un hK :)
namespace ZA
noncomputable def kk : World × Shared × Shared × (Str → Option Value) × (Str → Option Value) × Addr × Obj × Value × Value × Value × (List Int) × (List Addr) × (List Addr) × Addr × (List Value) × (List Addr) × Heap := Classical.epsilon fun y => ¬ ZA.cut.1 y.1 y.2.1 y.2.2.1 y.2.2.2.1 y.2.2.2.2.1 y.2.2.2.2.2.1 y.2.2.2.2.2.2.1 y.2.2.2.2.2.2.2.1 y.2.2.2.2.2.2.2.2.1 y.2.2.2.2.2.2.2.2.2.1 y.2.2.2.2.2.2.2.2.2.2.1 y.2.2.2.2.2.2.2.2.2.2.2.1 y.2.2.2.2.2.2.2.2.2.2.2.2.1 y.2.2.2.2.2.2.2.2.2.2.2.2.2.1 y.2.2.2.2.2.2.2.2.2.2.2.2.2.2.1 y.2.2.2.2.2.2.2.2.2.2.2.2.2.2.2.1 y.2.2.2.2.2.2.2.2.2.2.2.2.2.2.2.2
@[irreducible] noncomputable def w : World := kk.1
@[irreducible] noncomputable def s₀ : Shared := kk.2.1
@[irreducible] noncomputable def s₁ : Shared := kk.2.2.1
@[irreducible] noncomputable def mg : Str → Option Value := kk.2.2.2.1
@[irreducible] noncomputable def mb : Str → Option Value := kk.2.2.2.2.1
@[irreducible] noncomputable def fa : Addr := kk.2.2.2.2.2.1
@[irreducible] noncomputable def o : Obj := kk.2.2.2.2.2.2.1
@[irreducible] noncomputable def pm : Value := kk.2.2.2.2.2.2.2.1
@[irreducible] noncomputable def cd : Value := kk.2.2.2.2.2.2.2.2.1
@[irreducible] noncomputable def doc : Value := kk.2.2.2.2.2.2.2.2.2.1
@[irreducible] noncomputable def z1_ : List Int := kk.2.2.2.2.2.2.2.2.2.2.1
@[irreducible] noncomputable def z7_ : List Addr := kk.2.2.2.2.2.2.2.2.2.2.2.1
@[irreducible] noncomputable def z8_ : List Addr := kk.2.2.2.2.2.2.2.2.2.2.2.2.1
@[irreducible] noncomputable def z9_ : Addr := kk.2.2.2.2.2.2.2.2.2.2.2.2.2.1
@[irreducible] noncomputable def z10_ : List Value := kk.2.2.2.2.2.2.2.2.2.2.2.2.2.2.1
@[irreducible] noncomputable def z11_ : List Addr := kk.2.2.2.2.2.2.2.2.2.2.2.2.2.2.2.1
@[irreducible] noncomputable def h₁ : Heap := kk.2.2.2.2.2.2.2.2.2.2.2.2.2.2.2.2
end ZA
open ZA in
theorem ZA.main : ZA.cut.1 ZA.w ZA.s₀ ZA.s₁ ZA.mg ZA.mb ZA.fa ZA.o ZA.pm ZA.cd ZA.doc ZA.z1_ ZA.z7_ ZA.z8_ ZA.z9_ ZA.z10_ ZA.z11_ ZA.h₁ := by
  intro G hg KX T z2_ z3_ z4_ z5_ z6_ hL z12_ z13_ z14_ hI z15_ h63 z16_ F B0 N hd0 hu0
  k_steps
  all_goals (first | walk_at "nz lawfor1" | walk_at "nz lawfor4")
  all_goals (first | (intro i tk o9 I oi s' hi hP o1 F1 N1 hS; (have o2 : (_ : Nat) ≠ I := o1)) | (intro o9 v s' hP F1 N1 hS))
  all_goals k_steps
  all_goals first
    | exact law_turn (IsPool.le (by assumption) (by omega)) (by k_asm) (by walk_at "nz news") (by assumption) (Same.trans (by assumption) ⟨rfl, rfl, rfl⟩)
    | ((rename Same _ _ => hS); refine' goodW_bool (m := _) (L := _) ?gwF ?gwg (raisesW_false ?gwn) ?gwp ?gwo; (case gwF => k_asm); (case gwg => exact hS.1.trans hg); (case gwo => exact hS.2.2); (case gwn => wrow_none_raised); (case gwp => kc_post))
    | skip
theorem ZA.fin (y : World × Shared × Shared × (Str → Option Value) × (Str → Option Value) × Addr × Obj × Value × Value × Value × (List Int) × (List Addr) × (List Addr) × Addr × (List Value) × (List Addr) × Heap) : ZA.cut.1 y.1 y.2.1 y.2.2.1 y.2.2.2.1 y.2.2.2.2.1 y.2.2.2.2.2.1 y.2.2.2.2.2.2.1 y.2.2.2.2.2.2.2.1 y.2.2.2.2.2.2.2.2.1 y.2.2.2.2.2.2.2.2.2.1 y.2.2.2.2.2.2.2.2.2.2.1 y.2.2.2.2.2.2.2.2.2.2.2.1 y.2.2.2.2.2.2.2.2.2.2.2.2.1 y.2.2.2.2.2.2.2.2.2.2.2.2.2.1 y.2.2.2.2.2.2.2.2.2.2.2.2.2.2.1 y.2.2.2.2.2.2.2.2.2.2.2.2.2.2.2.1 y.2.2.2.2.2.2.2.2.2.2.2.2.2.2.2.2 :=
  henk (P := fun y => ZA.cut.1 y.1 y.2.1 y.2.2.1 y.2.2.2.1 y.2.2.2.2.1 y.2.2.2.2.2.1 y.2.2.2.2.2.2.1 y.2.2.2.2.2.2.2.1 y.2.2.2.2.2.2.2.2.1 y.2.2.2.2.2.2.2.2.2.1 y.2.2.2.2.2.2.2.2.2.2.1 y.2.2.2.2.2.2.2.2.2.2.2.1 y.2.2.2.2.2.2.2.2.2.2.2.2.1 y.2.2.2.2.2.2.2.2.2.2.2.2.2.1 y.2.2.2.2.2.2.2.2.2.2.2.2.2.2.1 y.2.2.2.2.2.2.2.2.2.2.2.2.2.2.2.1 y.2.2.2.2.2.2.2.2.2.2.2.2.2.2.2.2) (by with_unfolding_all exact ZA.main) y
theorem law_holds : PySem.Challenge.rw_nz0212_01.Holds :=
  ZA.cut.2 ZA.fin
end
end Nz
theorem PySem.Challenge.cw_nz0212_01_holds : PySem.Challenge.rw_nz0212_01.Holds :=
  Nz.law_holds
