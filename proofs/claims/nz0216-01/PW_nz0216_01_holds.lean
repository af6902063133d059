import PyProof.Rows.All
import Wide.All
import OpenK.AllK
import Wide.FinOn
import PySem.Challenge.RW_nz0216_01
open PySem PySem.W PyProof.Rows
set_option Elab.async false
set_option maxRecDepth 100000

section
namespace Mine
open PySem PySem.Spec PySem.Calls PyProof.Rows PySem.W

/-- the activations that lend a bytearray out while they run -/
noncomputable def lenders : List String :=
  ["bytearray.__contains__", "bytearray.__mod__", "bytearray.__rmod__", "_struct.pack_into.held", "bytearray.find.held"] ++ Builtin.Bytes.decodersThatHold

noncomputable def calm : Code → Bool
  | .builtin id _ => !lenders.contains id
  | _ => true

structure Calm (Γ : PySem.Ctx) : Prop where
  here : calm Γ.code = true
  below : ∀ x ∈ Γ.below, calm x.1 = true

/-- as the library's, but of calm contexts alone -/
noncomputable def wpB {α : Type} (M : Model) (A : Around) (t : Sem α) (Q : α → Shared → Prop) (E : Value → Shared → Prop) (s : Shared) : Prop :=
  ∀ Γ p, Γ.In A → Calm Γ → Sem.wp M Γ t (fun a _ s' => Q a s') (fun e _ s' => E e s') p s

noncomputable def codeB (M : Model) (A : Around) (c : Code) (R : Result → Shared → Prop) (s : Shared) : Prop :=
  ∀ Γ p, Γ.code = c → Γ.Below A → Calm Γ → wpCode M Γ R p s

section
variable {α β : Type} {M : Model} {A : Around} {E : Value → Shared → Prop} {s : Shared}

theorem of_any {t : Sem α} {Q : α → Shared → Prop} (h : wpAny M A t Q E s) : wpB M A t Q E s := fun Γ p hΓ _ => h Γ p hΓ
theorem code_of_any {c : Code} {R : Result → Shared → Prop} (h : codeAny M A c R s) : codeB M A c R s := fun Γ p hc hΓ _ => h Γ p hc hΓ

theorem b_mono {t : Sem α} {Q Q' : α → Shared → Prop} {E' : Value → Shared → Prop} (h : wpB M A t Q E s)
    (hQ : ∀ a s, Q a s → Q' a s) (hE : ∀ e s, E e s → E' e s) : wpB M A t Q' E' s :=
  fun Γ p hΓ hc => Sem.wp_mono M Γ t (fun a _ s => hQ a s) (fun e _ s => hE e s) p s (h Γ p hΓ hc)

theorem b_bind {m : Sem α} {f : α → Sem β} {Q : β → Shared → Prop} (h : wpB M A m (fun a s' => wpB M A (f a) Q E s') E s) :
    wpB M A (m >>= f) Q E s := fun Γ p hΓ hc => by
  rw [Sem.wp_bind']
  exact Sem.wp_mono M Γ m (fun a p' s' h' => h' Γ p' hΓ hc) (fun _ _ _ h' => h') p s (h Γ p hΓ hc)
theorem b_pure {a : α} {Q : α → Shared → Prop} (h : Q a s) : wpB M A (pure a) Q E s := fun _ _ _ _ => h
theorem b_holding {vs : List Value} {m : Sem α} {Q : α → Shared → Prop} (h : wpB M A m Q E s) : wpB M A (holding vs m) Q E s :=
  fun Γ p hΓ hc => by rw [Sem.wp_holding]; exact h Γ p hΓ hc
theorem b_onRaise {m : Sem α} {k : Value → Sem Unit} {Q : α → Shared → Prop}
    (h : wpB M A m Q (fun e s' => wpB M A (k e) (fun _ s'' => E e s'') E s') s) : wpB M A (m.onRaise k) Q E s := fun Γ p hΓ hc => by
  rw [Sem.wp_onRaise]
  exact Sem.wp_mono M Γ m (fun _ _ _ h' => h') (fun e p' s' h' => h' Γ p' hΓ hc) p s (h Γ p hΓ hc)
end

end Mine
end

section
namespace Mine
open PySem PySem.Spec PySem.Calls PyProof.Rows PySem.W

/-! From calm contexts to the library's head. The head asks for a run in any context within `callerA`; so it is handed a run that first looks at the stack and
    ends at once where something on it could lend a bytearray out. At the law's own call nothing stands on the stack: there the look is one step that changes nothing, and it is taken off again. -/

noncomputable def allCalm (l : List (Code × Pos)) : Bool := l.all fun x => calm x.1
noncomputable def guarded {α : Type} (a : α) (t : Sem α) : Sem α := .stack fun l => cond (allCalm l) t (.pure a)

section
variable {α β : Type} {M : Model} {A : Around} {E : Value → Shared → Prop} {s : Shared}

theorem calm_of_all {Γ : PySem.Ctx} {p : Pos} (h : allCalm ((Γ.code, p) :: Γ.below) = true) : Calm Γ :=
  have h := List.all_eq_true.mp h
  ⟨h _ (.head _), fun x hx => h x (.tail _ hx)⟩
theorem all_of_calm {Γ : PySem.Ctx} {p : Pos} (h : Calm Γ) : allCalm ((Γ.code, p) :: Γ.below) = true :=
  List.all_eq_true.mpr fun x hx => by
    cases hx with
    | head => exact h.here
    | tail _ hx => exact h.below x hx

theorem any_of_guarded {t : Sem α} {a : α} {Q : α → Shared → Prop} (hB : wpB M A t Q E s) (ha : Q a s) : wpAny M A (guarded a t) Q E s := fun Γ p hΓ => by
  rw [guarded, Sem.wp_stack]
  cases hc : allCalm ((Γ.code, p) :: Γ.below) with
  | true => exact hB Γ p hΓ (calm_of_all hc)
  | false => exact ha
theorem guarded_turn {t : Sem α} {u : Sem β} {a : α} {b : β} {Q : α → Shared → Prop} {Q' : β → Shared → Prop} (h : wpAny M A (guarded a t) Q E s)
    (hB : wpB M A t Q E s → wpB M A u Q' E s) (hab : Q a s → Q' b s) : wpAny M A (guarded b u) Q' E s := fun Γ p hΓ => by
  have at_ : ∀ Γ p, Γ.In A → Sem.wp M Γ (cond (allCalm ((Γ.code, p) :: Γ.below)) t (.pure a)) (fun a _ s' => Q a s') (fun e _ s' => E e s') p s := fun Γ p hΓ => by
    have := h Γ p hΓ
    rw [guarded, Sem.wp_stack] at this
    exact this
  rw [guarded, Sem.wp_stack]
  cases hc : allCalm ((Γ.code, p) :: Γ.below) with
  | true => exact hB (fun Γ p hΓ hc => by have := at_ Γ p hΓ; rw [all_of_calm hc] at this; exact this) Γ p hΓ (calm_of_all hc)
  | false => exact hab (by have := at_ Γ p hΓ; rw [hc] at this; exact this)
end

/-- the caller's thread, the look at the stack taken off -/
theorem unguarded_run {den : Code → Sem Fin} {prog : Program} {w : World} {n : Nat} {s : Shared} {a : Fin} {t : Sem Fin} {o : Outcome} {s' : Shared} (hs : s.asleep)
    (h : schedN den prog w n (.single s ⟨guarded a t, .builtin "claim.caller" {}, default, []⟩) = .halted o s') :
    ∃ n, schedN den prog w n (.single s ⟨t, .builtin "claim.caller" {}, default, []⟩) = .halted o s' := by
  have look : step den prog w s ⟨guarded a t, .builtin "claim.caller" {}, default, []⟩ = .go s ⟨t, .builtin "claim.caller" {}, default, []⟩ := by
    have hc : allCalm [((.builtin "claim.caller" {} : Code), (default : Pos))] = true := by decide +kernel
    show Step.go s ⟨cond (allCalm [((.builtin "claim.caller" {} : Code), (default : Pos))]) t (.pure a), .builtin "claim.caller" {}, default, []⟩ = _
    rw [hc]; rfl
  cases n with
  | zero => cases h
  | succ n =>
    refine ⟨n, ?_⟩
    rcases sstep_single den prog w s ⟨guarded a t, .builtin "claim.caller" {}, default, []⟩ rfl hs with e | e
    · rw [look] at e
      unfold schedN at h
      rw [e] at h
      exact h
    · rw [look] at e; cases e

theorem unguarded {c : ClaimW} {a : List Value → Fin} {tree : List Value → Sem Fin} {defs kps : List Str} {writes : Bool}
    (h : c.HoldsOpenBy (fun vs => ⟨guarded (a vs) (tree vs), .builtin "claim.caller" {}, default, []⟩) defs kps writes) :
    c.HoldsOpenBy (fun vs => ⟨tree vs, .builtin "claim.caller" {}, default, []⟩) defs kps writes := by
  refine ⟨h.1, h.2.1, fun w => ⟨(h.2.2 w).1, fun s hs => ?_⟩⟩
  obtain ⟨s₀, hf, hg, s₁, hT, h1, h2, h3, hc⟩ := (h.2.2 w).2 s hs
  have z : s₁.asleep := Shared.asleep_of_life hT.2.1 (Shared.asleep_of_life (fence_lifeW hf) (AfterImport.life hs))
  refine ⟨s₀, hf, hg, s₁, hT, h1, h2, h3, fun args hp hl ord ho => ?_⟩
  obtain ⟨vs, s₂, hlaid, n, o, s', hr, rest⟩ := hc args hp hl ord ho
  obtain ⟨n', hr'⟩ := unguarded_run (Shared.asleep_of_life (layAllW_rest _ _ _ hlaid).2.2.2 z) hr
  exact ⟨vs, s₂, hlaid, n', o, s', hr', rest⟩
end Mine
end

section
namespace Mine
open PySem PySem.Calls PyProof.Rows PySem.W

/-! the texts of the defs, by their place -/
noncomputable def inner : Stmt → List Stmt
  | .FunctionDef _ _ body _ _ _ _ _ _ _ => body
  | .ClassDef _ _ _ body _ _ _ _ _ _ _ => body
  | _ => []
noncomputable def nth : List Stmt → Nat → Stmt
  | x :: _, 0 => x
  | _ :: r, n + 1 => nth r n
  | [], _ => .Pass default
noncomputable def topSt (n : Nat) : Stmt := nth PySem.Challenge.pw_nz0216_01.main.body n
noncomputable def parsOf : Stmt → Arguments
  | .FunctionDef _ a _ _ _ _ _ _ _ _ => a
  | _ => default
noncomputable def scopeOf : Stmt → Scope
  | .FunctionDef _ _ _ _ _ _ s _ _ _ => s
  | _ => default
/-- a def's object -/
noncomputable def fnO (st : Stmt) (nm ql : String) (dv mv : Value) (c : Addr) : Obj :=
  { cls := Value.type "function", data := Data.func { name := Str.ofString nm, qualname := Str.ofString ql, params := parsOf st, body := FuncBody.stmts (inner st), scope := scopeOf st, globals := 3, closure := [], defaults := dv, kwdefaults := Value.none, pyModule := mv, code := Value.ref c } }

/-- what stands from the start on, as far as it is looked at -/
noncomputable def myK : Params → Frag := fun P => [
    (2,
      { cls := Value.none, data := Data.dict #[] }),
    (3,
      { cls := Value.type "dict",
        data :=
          Data.dict
            #[{ hash := PyData.keyHash P (Str.ofString "__name__"), key := Value.str (Str.ofString "__name__") 165,
                val := Value.str (Str.ofString "law_nz0216_01") 481 },
              { hash := PyData.keyHash P (Str.ofString "__doc__"), key := Value.str (Str.ofString "__doc__") 166,
                val := Value.none },
              { hash := PyData.keyHash P (Str.ofString "__package__"), key := Value.str (Str.ofString "__package__") 167,
                val := Value.none },
              { hash := PyData.keyHash P (Str.ofString "__loader__"), key := Value.str (Str.ofString "__loader__") 168,
                val := Value.builtin "__main__.__loader__#opaque" },
              { hash := PyData.keyHash P (Str.ofString "__spec__"), key := Value.str (Str.ofString "__spec__") 169,
                val := Value.none },
              { hash := PyData.keyHash P (Str.ofString "__annotations__"),
                key := Value.str (Str.ofString "__annotations__") 170, val := Value.ref 6 },
              { hash := PyData.keyHash P (Str.ofString "__builtins__"), key := Value.str (Str.ofString "__builtins__") 171,
                val := Value.ref 4 },
              { hash := PyData.keyHash P (Str.ofString "__file__"), key := Value.str (Str.ofString "__file__") 173,
                val := Value.str (Str.ofString "/claim/cut.py") 172 },
              { hash := PyData.keyHash P (Str.ofString "__cached__"), key := Value.str (Str.ofString "__cached__") 174,
                val := Value.none },
              { hash := PyData.keyHash P (Str.ofString "_wall"), key := Value.str (Str.ofString "_wall") 193,
                val := Value.ref 21 },
              { hash := PyData.keyHash P (Str.ofString "BoardError"), key := Value.str (Str.ofString "BoardError") 223,
                val := Value.ref 39 },
              { hash := PyData.keyHash P (Str.ofString "BadArgument"), key := Value.str (Str.ofString "BadArgument") 239,
                val := Value.ref 52 },
              { hash := PyData.keyHash P (Str.ofString "Uart"), key := Value.str (Str.ofString "Uart") 387,
                val := Value.ref 156 },
              { hash := PyData.keyHash P (Str.ofString "LineInput"), key := Value.str (Str.ofString "LineInput") 480,
                val := Value.ref 218 },
              { hash := PyData.keyHash P (Str.ofString "_law_take"), key := Value.str (Str.ofString "_law_take") 491,
                val := Value.ref 229 },
              { hash := PyData.keyHash P (Str.ofString "_law_more"), key := Value.str (Str.ofString "_law_more") 499,
                val := Value.ref 236 },
              { hash := PyData.keyHash P (Str.ofString "_law_typed"), key := Value.str (Str.ofString "_law_typed") 510,
                val := Value.ref 243 },
              { hash := PyData.keyHash P (Str.ofString "_law_screen"), key := Value.str (Str.ofString "_law_screen") 522,
                val := Value.ref 250 },
              { hash := PyData.keyHash P (Str.ofString "_law_reads"), key := Value.str (Str.ofString "_law_reads") 534,
                val := Value.ref 257 },
              { hash := PyData.keyHash P (Str.ofString "_law_line_right"),
                key := Value.str (Str.ofString "_law_line_right") 540, val := Value.ref 262 },
              { hash := PyData.keyHash P (Str.ofString "law"), key := Value.str (Str.ofString "law") 546,
                val := Value.ref 267 }]
            21 }),
    (62,
      { cls := Value.type "tuple", data := Data.seq #[Value.int 16 268] }),
    (68,
      { cls := Value.type "code",
        data :=
          Data.fields
            #[Value.str (Str.ofString "__init__") 269, Value.str (Str.ofString "Uart.__init__") 270,
              Value.str (Str.ofString "/claim/cut.py") 271, Value.int 22 0, Value.int 2 0, Value.int 0 0, Value.int 0 0,
              Value.int 3 0, Value.ref 63, Value.bool true, Value.int 181 0, Value.ref 64, Value.none, Value.ref 65,
              Value.ref 66, Value.ref 67, Value.int 274 0, Value.int 22 0, Value.str (Str.ofString "/claim/cut.py") 275] }),
    (69, fnO (nth (inner (topSt 5)) 7) "__init__" "Uart.__init__" (Value.ref 62) (Value.str (Str.ofString "pipeboard.devices") 240) 68),
    (75,
      { cls := Value.type "code",
        data :=
          Data.fields
            #[Value.str (Str.ofString "feed") 277, Value.str (Str.ofString "Uart.feed") 278,
              Value.str (Str.ofString "/claim/cut.py") 279, Value.int 34 0, Value.int 2 0, Value.int 0 0, Value.int 0 0,
              Value.int 3 0, Value.ref 70, Value.bool true, Value.int 181 0, Value.ref 71, Value.none, Value.ref 72,
              Value.ref 73, Value.ref 74, Value.int 283 0, Value.int 34 0, Value.str (Str.ofString "/claim/cut.py") 284] }),
    (76, fnO (nth (inner (topSt 5)) 8) "feed" "Uart.feed" (Value.none) (Value.str (Str.ofString "pipeboard.devices") 240) 75),
    (82,
      { cls := Value.type "code",
        data :=
          Data.fields
            #[Value.str (Str.ofString "take_out") 286, Value.str (Str.ofString "Uart.take_out") 287,
              Value.str (Str.ofString "/claim/cut.py") 288, Value.int 41 0, Value.int 1 0, Value.int 0 0, Value.int 0 0,
              Value.int 3 0, Value.ref 77, Value.bool true, Value.int 181 0, Value.ref 78, Value.none, Value.ref 79,
              Value.ref 80, Value.ref 81, Value.int 291 0, Value.int 41 0, Value.str (Str.ofString "/claim/cut.py") 292] }),
    (83, fnO (nth (inner (topSt 5)) 9) "take_out" "Uart.take_out" (Value.none) (Value.str (Str.ofString "pipeboard.devices") 240) 82),
    (89,
      { cls := Value.type "code",
        data :=
          Data.fields
            #[Value.str (Str.ofString "send") 294, Value.str (Str.ofString "Uart.send") 295,
              Value.str (Str.ofString "/claim/cut.py") 296, Value.int 46 0, Value.int 2 0, Value.int 0 0, Value.int 0 0,
              Value.int 3 0, Value.ref 84, Value.bool true, Value.int 181 0, Value.ref 85, Value.none, Value.ref 86,
              Value.ref 87, Value.ref 88, Value.int 299 0, Value.int 46 0, Value.str (Str.ofString "/claim/cut.py") 300] }),
    (90, fnO (nth (inner (topSt 5)) 10) "send" "Uart.send" (Value.none) (Value.str (Str.ofString "pipeboard.devices") 240) 89),
    (96,
      { cls := Value.type "code",
        data :=
          Data.fields
            #[Value.str (Str.ofString "receive") 302, Value.str (Str.ofString "Uart.receive") 303,
              Value.str (Str.ofString "/claim/cut.py") 304, Value.int 49 0, Value.int 1 0, Value.int 0 0, Value.int 0 0,
              Value.int 3 0, Value.ref 91, Value.bool true, Value.int 181 0, Value.ref 92, Value.none, Value.ref 93,
              Value.ref 94, Value.ref 95, Value.int 307 0, Value.int 49 0, Value.str (Str.ofString "/claim/cut.py") 308] }),
    (97, fnO (nth (inner (topSt 5)) 11) "receive" "Uart.receive" (Value.none) (Value.str (Str.ofString "pipeboard.devices") 240) 96),
    (155,
      { cls := Value.type "dict",
        data :=
          Data.dict
            #[{ hash := PyData.keyHash P (Str.ofString "__module__"), key := Value.str (Str.ofString "__module__") 249,
                val := Value.str (Str.ofString "pipeboard.devices") 240 },
              { hash := PyData.keyHash P (Str.ofString "__firstlineno__"),
                key := Value.str (Str.ofString "__firstlineno__") 253, val := Value.int 13 252 },
              { hash := PyData.keyHash P (Str.ofString "DATA"), key := Value.str (Str.ofString "DATA") 255,
                val := Value.int 0 254 },
              { hash := PyData.keyHash P (Str.ofString "ENABLE"), key := Value.str (Str.ofString "ENABLE") 257,
                val := Value.int 1 256 },
              { hash := PyData.keyHash P (Str.ofString "IDENT"), key := Value.str (Str.ofString "IDENT") 259,
                val := Value.int 2 258 },
              { hash := PyData.keyHash P (Str.ofString "LINE"), key := Value.str (Str.ofString "LINE") 261,
                val := Value.int 3 260 },
              { hash := PyData.keyHash P (Str.ofString "STATUS"), key := Value.str (Str.ofString "STATUS") 263,
                val := Value.int 5 262 },
              { hash := PyData.keyHash P (Str.ofString "RECEIVED"), key := Value.str (Str.ofString "RECEIVED") 265,
                val := Value.int 1 264 },
              { hash := PyData.keyHash P (Str.ofString "EMPTY"), key := Value.str (Str.ofString "EMPTY") 267,
                val := Value.int 2 266 },
              { hash := PyData.keyHash P (Str.ofString "__init__"), key := Value.str (Str.ofString "__init__") 276,
                val := Value.ref 69 },
              { hash := PyData.keyHash P (Str.ofString "feed"), key := Value.str (Str.ofString "feed") 285,
                val := Value.ref 76 },
              { hash := PyData.keyHash P (Str.ofString "take_out"), key := Value.str (Str.ofString "take_out") 293,
                val := Value.ref 83 },
              { hash := PyData.keyHash P (Str.ofString "send"), key := Value.str (Str.ofString "send") 301,
                val := Value.ref 90 },
              { hash := PyData.keyHash P (Str.ofString "receive"), key := Value.str (Str.ofString "receive") 309,
                val := Value.ref 97 },
              { hash := PyData.keyHash P (Str.ofString "has_received"), key := Value.str (Str.ofString "has_received") 316,
                val := Value.ref 104 },
              { hash := PyData.keyHash P (Str.ofString "is_empty_told"), key := Value.str (Str.ofString "is_empty_told") 323,
                val := Value.ref 111 },
              { hash := PyData.keyHash P (Str.ofString "is_due"), key := Value.str (Str.ofString "is_due") 330,
                val := Value.ref 118 },
              { hash := PyData.keyHash P (Str.ofString "is_divisor"), key := Value.str (Str.ofString "is_divisor") 337,
                val := Value.ref 125 },
              { hash := PyData.keyHash P (Str.ofString "status"), key := Value.str (Str.ofString "status") 345,
                val := Value.ref 132 },
              { hash := PyData.keyHash P (Str.ofString "identify"), key := Value.str (Str.ofString "identify") 352,
                val := Value.ref 139 },
              { hash := PyData.keyHash P (Str.ofString "load"), key := Value.str (Str.ofString "load") 361,
                val := Value.ref 146 },
              { hash := PyData.keyHash P (Str.ofString "store"), key := Value.str (Str.ofString "store") 371,
                val := Value.ref 153 },
              { hash := PyData.keyHash P (Str.ofString "__static_attributes__"),
                key := Value.str (Str.ofString "__static_attributes__") 380, val := Value.ref 154 },
              { hash := PyData.keyHash P (Str.ofString "__dict__"), key := Value.str (Str.ofString "__dict__") 382,
                val := Value.ref 157 },
              { hash := PyData.keyHash P (Str.ofString "__weakref__"), key := Value.str (Str.ofString "__weakref__") 384,
                val := Value.ref 158 },
              { hash := PyData.keyHash P (Str.ofString "__doc__"), key := Value.str (Str.ofString "__doc__") 385,
                val := Value.none }]
            4 }),
    (156,
      { cls := Value.type "type",
        data :=
          Data.cls
            { name := Str.ofString "Uart", bases := [Value.type "object"], mro := [Value.ref 156, Value.type "object"],
              ns := 155, qualname := Str.ofString "Uart" },
        slots :=
          #[none, none, some (Value.str (Str.ofString "Uart") 242), some (Value.str (Str.ofString "Uart") 250),
            some (Value.builtin "object.__new__"), some (Value.bool true)] }),
    (173,
      { cls := Value.type "tuple", data := Data.seq #[Value.int 128 417] }),
    (179,
      { cls := Value.type "code",
        data :=
          Data.fields
            #[Value.str (Str.ofString "__init__") 418, Value.str (Str.ofString "LineInput.__init__") 419,
              Value.str (Str.ofString "/claim/cut.py") 420, Value.int 90 0, Value.int 3 0, Value.int 0 0, Value.int 0 0,
              Value.int 3 0, Value.ref 174, Value.bool true, Value.int 181 0, Value.ref 175, Value.none, Value.ref 176,
              Value.ref 177, Value.ref 178, Value.int 424 0, Value.int 90 0, Value.str (Str.ofString "/claim/cut.py") 425] }),
    (180, fnO (nth (inner (topSt 6)) 7) "__init__" "LineInput.__init__" (Value.ref 173) (Value.str (Str.ofString "pipeboard.devices") 240) 179),
    (186,
      { cls := Value.type "code",
        data :=
          Data.fields
            #[Value.str (Str.ofString "take") 427, Value.str (Str.ofString "LineInput.take") 428,
              Value.str (Str.ofString "/claim/cut.py") 429, Value.int 98 0, Value.int 1 0, Value.int 0 0, Value.int 0 0,
              Value.int 3 0, Value.ref 181, Value.bool true, Value.int 181 0, Value.ref 182, Value.none, Value.ref 183,
              Value.ref 184, Value.ref 185, Value.int 432 0, Value.int 98 0, Value.str (Str.ofString "/claim/cut.py") 433] }),
    (187, fnO (nth (inner (topSt 6)) 8) "take" "LineInput.take" (Value.none) (Value.str (Str.ofString "pipeboard.devices") 240) 186),
    (193,
      { cls := Value.type "code",
        data :=
          Data.fields
            #[Value.str (Str.ofString "erase") 435, Value.str (Str.ofString "LineInput.erase") 436,
              Value.str (Str.ofString "/claim/cut.py") 437, Value.int 105 0, Value.int 1 0, Value.int 0 0, Value.int 0 0,
              Value.int 3 0, Value.ref 188, Value.bool true, Value.int 181 0, Value.ref 189, Value.none, Value.ref 190,
              Value.ref 191, Value.ref 192, Value.int 439 0, Value.int 105 0, Value.str (Str.ofString "/claim/cut.py") 440] }),
    (194, fnO (nth (inner (topSt 6)) 9) "erase" "LineInput.erase" (Value.none) (Value.str (Str.ofString "pipeboard.devices") 240) 193),
    (200,
      { cls := Value.type "code",
        data :=
          Data.fields
            #[Value.str (Str.ofString "typed") 442, Value.str (Str.ofString "LineInput.typed") 443,
              Value.str (Str.ofString "/claim/cut.py") 444, Value.int 109 0, Value.int 2 0, Value.int 0 0, Value.int 0 0,
              Value.int 3 0, Value.ref 195, Value.bool true, Value.int 181 0, Value.ref 196, Value.none, Value.ref 197,
              Value.ref 198, Value.ref 199, Value.int 447 0, Value.int 109 0, Value.str (Str.ofString "/claim/cut.py") 448] }),
    (201, fnO (nth (inner (topSt 6)) 10) "typed" "LineInput.typed" (Value.none) (Value.str (Str.ofString "pipeboard.devices") 240) 200),
    (207,
      { cls := Value.type "code",
        data :=
          Data.fields
            #[Value.str (Str.ofString "put") 450, Value.str (Str.ofString "LineInput.put") 451,
              Value.str (Str.ofString "/claim/cut.py") 452, Value.int 119 0, Value.int 2 0, Value.int 0 0, Value.int 0 0,
              Value.int 3 0, Value.ref 202, Value.bool true, Value.int 181 0, Value.ref 203, Value.none, Value.ref 204,
              Value.ref 205, Value.ref 206, Value.int 455 0, Value.int 119 0, Value.str (Str.ofString "/claim/cut.py") 456] }),
    (208, fnO (nth (inner (topSt 6)) 11) "put" "LineInput.put" (Value.none) (Value.str (Str.ofString "pipeboard.devices") 240) 207),
    (214,
      { cls := Value.type "code",
        data :=
          Data.fields
            #[Value.str (Str.ofString "read") 458, Value.str (Str.ofString "LineInput.read") 459,
              Value.str (Str.ofString "/claim/cut.py") 460, Value.int 126 0, Value.int 2 0, Value.int 0 0, Value.int 0 0,
              Value.int 3 0, Value.ref 209, Value.bool true, Value.int 181 0, Value.ref 210, Value.none, Value.ref 211,
              Value.ref 212, Value.ref 213, Value.int 466 0, Value.int 126 0, Value.str (Str.ofString "/claim/cut.py") 467] }),
    (215, fnO (nth (inner (topSt 6)) 12) "read" "LineInput.read" (Value.none) (Value.str (Str.ofString "pipeboard.devices") 240) 214),
    (217,
      { cls := Value.type "dict",
        data :=
          Data.dict
            #[{ hash := PyData.keyHash P (Str.ofString "__module__"), key := Value.str (Str.ofString "__module__") 395,
                val := Value.str (Str.ofString "pipeboard.devices") 240 },
              { hash := PyData.keyHash P (Str.ofString "__firstlineno__"),
                key := Value.str (Str.ofString "__firstlineno__") 399, val := Value.int 81 398 },
              { hash := PyData.keyHash P (Str.ofString "FEED"), key := Value.str (Str.ofString "FEED") 401,
                val := Value.int 10 400 },
              { hash := PyData.keyHash P (Str.ofString "RETURN"), key := Value.str (Str.ofString "RETURN") 403,
                val := Value.int 13 402 },
              { hash := PyData.keyHash P (Str.ofString "BACK"), key := Value.str (Str.ofString "BACK") 405,
                val := Value.int 8 404 },
              { hash := PyData.keyHash P (Str.ofString "DELETE"), key := Value.str (Str.ofString "DELETE") 407,
                val := Value.int 127 406 },
              { hash := PyData.keyHash P (Str.ofString "KILL"), key := Value.str (Str.ofString "KILL") 409,
                val := Value.int 21 408 },
              { hash := PyData.keyHash P (Str.ofString "END"), key := Value.str (Str.ofString "END") 411,
                val := Value.int 4 410 },
              { hash := PyData.keyHash P (Str.ofString "ERASED"), key := Value.str (Str.ofString "ERASED") 416,
                val := Value.bytes #[8, 32, 8] 415 },
              { hash := PyData.keyHash P (Str.ofString "__init__"), key := Value.str (Str.ofString "__init__") 426,
                val := Value.ref 180 },
              { hash := PyData.keyHash P (Str.ofString "take"), key := Value.str (Str.ofString "take") 434,
                val := Value.ref 187 },
              { hash := PyData.keyHash P (Str.ofString "erase"), key := Value.str (Str.ofString "erase") 441,
                val := Value.ref 194 },
              { hash := PyData.keyHash P (Str.ofString "typed"), key := Value.str (Str.ofString "typed") 449,
                val := Value.ref 201 },
              { hash := PyData.keyHash P (Str.ofString "put"), key := Value.str (Str.ofString "put") 457,
                val := Value.ref 208 },
              { hash := PyData.keyHash P (Str.ofString "read"), key := Value.str (Str.ofString "read") 468,
                val := Value.ref 215 },
              { hash := PyData.keyHash P (Str.ofString "__static_attributes__"),
                key := Value.str (Str.ofString "__static_attributes__") 473, val := Value.ref 216 },
              { hash := PyData.keyHash P (Str.ofString "__dict__"), key := Value.str (Str.ofString "__dict__") 475,
                val := Value.ref 219 },
              { hash := PyData.keyHash P (Str.ofString "__weakref__"), key := Value.str (Str.ofString "__weakref__") 477,
                val := Value.ref 220 },
              { hash := PyData.keyHash P (Str.ofString "__doc__"), key := Value.str (Str.ofString "__doc__") 478,
                val := Value.none }]
            4 }),
    (218,
      { cls := Value.type "type",
        data :=
          Data.cls
            { name := Str.ofString "LineInput", bases := [Value.type "object"], mro := [Value.ref 218, Value.type "object"],
              ns := 217, qualname := Str.ofString "LineInput" },
        slots :=
          #[none, none, some (Value.str (Str.ofString "LineInput") 388), some (Value.str (Str.ofString "LineInput") 396),
            some (Value.builtin "object.__new__"), some (Value.bool true)] }),
    (228,
      { cls := Value.type "code",
        data :=
          Data.fields
            #[Value.str (Str.ofString "_law_take") 483, Value.str (Str.ofString "_law_take") 484,
              Value.str (Str.ofString "/claim/cut.py") 485, Value.int 145 0, Value.int 2 0, Value.int 0 0, Value.int 0 0,
              Value.int 3 0, Value.ref 223, Value.bool true, Value.int 181 0, Value.ref 224, Value.none, Value.ref 225,
              Value.ref 226, Value.ref 227, Value.int 489 0, Value.int 145 0, Value.str (Str.ofString "/claim/cut.py") 490] }),
    (229, fnO (topSt 8) "_law_take" "_law_take" (Value.none) (Value.str (Str.ofString "law_nz0216_01") 481) 228),
    (235,
      { cls := Value.type "code",
        data :=
          Data.fields
            #[Value.str (Str.ofString "_law_more") 492, Value.str (Str.ofString "_law_more") 493,
              Value.str (Str.ofString "/claim/cut.py") 494, Value.int 152 0, Value.int 2 0, Value.int 0 0, Value.int 0 0,
              Value.int 3 0, Value.ref 230, Value.bool true, Value.int 181 0, Value.ref 231, Value.none, Value.ref 232,
              Value.ref 233, Value.ref 234, Value.int 497 0, Value.int 152 0, Value.str (Str.ofString "/claim/cut.py") 498] }),
    (236, fnO (topSt 9) "_law_more" "_law_more" (Value.none) (Value.str (Str.ofString "law_nz0216_01") 481) 235),
    (242,
      { cls := Value.type "code",
        data :=
          Data.fields
            #[Value.str (Str.ofString "_law_typed") 500, Value.str (Str.ofString "_law_typed") 501,
              Value.str (Str.ofString "/claim/cut.py") 502, Value.int 154 0, Value.int 2 0, Value.int 0 0, Value.int 0 0,
              Value.int 3 0, Value.ref 237, Value.bool true, Value.int 181 0, Value.ref 238, Value.none, Value.ref 239,
              Value.ref 240, Value.ref 241, Value.int 508 0, Value.int 154 0, Value.str (Str.ofString "/claim/cut.py") 509] }),
    (243, fnO (topSt 10) "_law_typed" "_law_typed" (Value.none) (Value.str (Str.ofString "law_nz0216_01") 481) 242),
    (249,
      { cls := Value.type "code",
        data :=
          Data.fields
            #[Value.str (Str.ofString "_law_screen") 511, Value.str (Str.ofString "_law_screen") 512,
              Value.str (Str.ofString "/claim/cut.py") 513, Value.int 166 0, Value.int 1 0, Value.int 0 0, Value.int 0 0,
              Value.int 3 0, Value.ref 244, Value.bool true, Value.int 181 0, Value.ref 245, Value.none, Value.ref 246,
              Value.ref 247, Value.ref 248, Value.int 520 0, Value.int 166 0, Value.str (Str.ofString "/claim/cut.py") 521] }),
    (250, fnO (topSt 11) "_law_screen" "_law_screen" (Value.none) (Value.str (Str.ofString "law_nz0216_01") 481) 249),
    (256,
      { cls := Value.type "code",
        data :=
          Data.fields
            #[Value.str (Str.ofString "_law_reads") 523, Value.str (Str.ofString "_law_reads") 524,
              Value.str (Str.ofString "/claim/cut.py") 525, Value.int 181 0, Value.int 3 0, Value.int 0 0, Value.int 0 0,
              Value.int 3 0, Value.ref 251, Value.bool true, Value.int 181 0, Value.ref 252, Value.none, Value.ref 253,
              Value.ref 254, Value.ref 255, Value.int 532 0, Value.int 181 0, Value.str (Str.ofString "/claim/cut.py") 533] }),
    (257, fnO (topSt 12) "_law_reads" "_law_reads" (Value.none) (Value.str (Str.ofString "law_nz0216_01") 481) 256),
    (261,
      { cls := Value.type "code",
        data :=
          Data.fields
            #[Value.str (Str.ofString "_law_line_right") 535, Value.str (Str.ofString "_law_line_right") 536,
              Value.str (Str.ofString "/claim/cut.py") 537, Value.int 187 0, Value.int 6 0, Value.int 0 0, Value.int 0 0,
              Value.int 3 0, Value.ref 258, Value.bool true, Value.int 181 0, Value.ref 259, Value.none, Value.none,
              Value.none, Value.ref 260, Value.int 538 0, Value.int 187 0, Value.str (Str.ofString "/claim/cut.py") 539] }),
    (262, fnO (topSt 13) "_law_line_right" "_law_line_right" (Value.none) (Value.str (Str.ofString "law_nz0216_01") 481) 261),
    (266,
      { cls := Value.type "code",
        data :=
          Data.fields
            #[Value.str (Str.ofString "law") 541, Value.str (Str.ofString "law") 542,
              Value.str (Str.ofString "/claim/cut.py") 543, Value.int 202 0, Value.int 1 0, Value.int 0 0, Value.int 0 0,
              Value.int 3 0, Value.ref 263, Value.bool true, Value.int 181 0, Value.ref 264, Value.none, Value.none,
              Value.none, Value.ref 265, Value.int 544 0, Value.int 202 0, Value.str (Str.ofString "/claim/cut.py") 545] }),
    (267, fnO (topSt 14) "law" "law" (Value.none) (Value.str (Str.ofString "law_nz0216_01") 481) 266)]
noncomputable def myAs : List Addr := [2, 3, 62, 68, 69, 75, 76, 82, 83, 89, 90, 96, 97, 155, 156, 173, 179, 180, 186, 187, 193, 194, 200, 201, 207, 208, 214, 215, 217, 218, 228, 229, 235, 236, 242, 243, 249, 250, 256, 257, 261, 262, 266, 267]
end Mine
end

section
set_option maxHeartbeats 8000000
set_option linter.unusedVariables false

namespace Mine.Hd
open PySem PySem.Calls PyProof.Rows PySem.W

/-! the head's run in pieces: the objects are told over a table `Tx` (how a text is told, the program, the names of the built-in types), so that one equation of tables turns all of them -/

/-- the program's twin is made by this -/
theorem pw_here : (PySem.Challenge.pw_nz0216_01.main.futureAnnotations == false) = true := by k_qdec

noncomputable def c0 : List Nat := [60, 109, 111, 100, 117, 108, 101, 62]
noncomputable def c1 : List Nat := [47, 99, 108, 97, 105, 109, 47, 99, 117, 116, 46, 112, 121]
noncomputable def c2 : List Nat := [95, 95, 109, 97, 105, 110, 95, 95]
noncomputable def c3 : List Nat := [95, 95, 110, 97, 109, 101, 95, 95]
noncomputable def c4 : List Nat := [112, 105, 112, 101, 98, 111, 97, 114, 100, 46, 101, 114, 114, 111, 114, 115]
noncomputable def c5 : List Nat := [95, 95, 100, 111, 99, 95, 95]
noncomputable def c6 : List Nat := [95, 95, 112, 97, 99, 107, 97, 103, 101, 95, 95]
noncomputable def c7 : List Nat := [95, 95, 108, 111, 97, 100, 101, 114, 95, 95]
noncomputable def c8 : List Nat := [95, 95, 115, 112, 101, 99, 95, 95]
noncomputable def c9 : List Nat := [95, 95, 97, 110, 110, 111, 116, 97, 116, 105, 111, 110, 115, 95, 95]
noncomputable def c10 : List Nat := [95, 95, 98, 117, 105, 108, 116, 105, 110, 115, 95, 95]
noncomputable def c11 : List Nat := [95, 95, 102, 105, 108, 101, 95, 95]
noncomputable def c12 : List Nat := [95, 95, 99, 97, 99, 104, 101, 100, 95, 95]
noncomputable def c13 : List Nat := [95, 119, 97, 108, 108]
noncomputable def c14 : List Nat := [66, 111, 97, 114, 100, 69, 114, 114, 111, 114]
noncomputable def c15 : List Nat := [107]
noncomputable def c16 : List Nat := [95, 95, 109, 111, 100, 117, 108, 101, 95, 95]
noncomputable def c17 : List Nat := [95, 95, 113, 117, 97, 108, 110, 97, 109, 101, 95, 95]
noncomputable def c18 : List Nat := [95, 95, 102, 105, 114, 115, 116, 108, 105, 110, 101, 110, 111, 95, 95]
noncomputable def c19 : List Nat := [95, 95, 105, 110, 105, 116, 95, 95]
noncomputable def c20 : List Nat := [95, 95, 115, 116, 97, 116, 105, 99, 95, 97, 116, 116, 114, 105, 98, 117, 116, 101, 115, 95, 95]
noncomputable def c21 : List Nat := []
noncomputable def c22 : List Nat := [115, 101, 108, 102]
noncomputable def c23 : List Nat := [114, 101, 97, 115, 111, 110]
noncomputable def c24 : List Nat := [66, 111, 97, 114, 100, 69, 114, 114, 111, 114, 46, 95, 95, 105, 110, 105, 116, 95, 95]
noncomputable def c25 : List Nat := [86, 97, 108, 117, 101, 69, 114, 114, 111, 114]
noncomputable def c26 : List Nat := [95, 95, 119, 101, 97, 107, 114, 101, 102, 95, 95]
noncomputable def c27 : List Nat := [112, 105, 112, 101, 98, 111, 97, 114, 100, 46, 100, 101, 118, 105, 99, 101, 115]
noncomputable def c28 : List Nat := [66, 97, 100, 65, 114, 103, 117, 109, 101, 110, 116]
noncomputable def c29 : List Nat := [85, 97, 114, 116]
noncomputable def c30 : List Nat := [68, 65, 84, 65]
noncomputable def c31 : List Nat := [69, 78, 65, 66, 76, 69]
noncomputable def c32 : List Nat := [73, 68, 69, 78, 84]
noncomputable def c33 : List Nat := [76, 73, 78, 69]
noncomputable def c34 : List Nat := [83, 84, 65, 84, 85, 83]
noncomputable def c35 : List Nat := [82, 69, 67, 69, 73, 86, 69, 68]
noncomputable def c36 : List Nat := [69, 77, 80, 84, 89]
noncomputable def c37 : List Nat := [102, 101, 101, 100]
noncomputable def c38 : List Nat := [116, 97, 107, 101, 95, 111, 117, 116]
noncomputable def c39 : List Nat := [115, 101, 110, 100]
noncomputable def c40 : List Nat := [114, 101, 99, 101, 105, 118, 101]
noncomputable def c41 : List Nat := [104, 97, 115, 95, 114, 101, 99, 101, 105, 118, 101, 100]
noncomputable def c42 : List Nat := [105, 115, 95, 101, 109, 112, 116, 121, 95, 116, 111, 108, 100]
noncomputable def c43 : List Nat := [105, 115, 95, 100, 117, 101]
noncomputable def c44 : List Nat := [105, 115, 95, 100, 105, 118, 105, 115, 111, 114]
noncomputable def c45 : List Nat := [115, 116, 97, 116, 117, 115]
noncomputable def c46 : List Nat := [105, 100, 101, 110, 116, 105, 102, 121]
noncomputable def c47 : List Nat := [108, 111, 97, 100]
noncomputable def c48 : List Nat := [115, 116, 111, 114, 101]
noncomputable def c49 : List Nat := [115, 105, 122, 101]
noncomputable def c50 : List Nat := [85, 97, 114, 116, 46, 95, 95, 105, 110, 105, 116, 95, 95]
noncomputable def c51 : List Nat := [115, 105, 122, 101, 32, 111, 102, 32, 97, 32, 117, 97, 114, 116, 39, 115, 32, 114, 111, 119]
noncomputable def c52 : List Nat := [111, 117, 116]
noncomputable def c53 : List Nat := [98, 121, 116, 101, 97, 114, 114, 97, 121]
noncomputable def c54 : List Nat := [119, 97, 105, 116, 105, 110, 103]
noncomputable def c55 : List Nat := [101, 110, 97, 98, 108, 101, 100]
noncomputable def c56 : List Nat := [108, 105, 110, 101]
noncomputable def c57 : List Nat := [100, 105, 118, 105, 115, 111, 114]
noncomputable def c58 : List Nat := [108, 111, 115, 116]
noncomputable def c59 : List Nat := [115, 101, 110, 116]
noncomputable def c60 : List Nat := [111, 99, 116, 101, 116, 115]
noncomputable def c61 : List Nat := [111, 99, 116, 101, 116]
noncomputable def c62 : List Nat := [85, 97, 114, 116, 46, 102, 101, 101, 100]
noncomputable def c63 : List Nat := [108, 101, 110]
noncomputable def c64 : List Nat := [97, 112, 112, 101, 110, 100]
noncomputable def c65 : List Nat := [102, 111, 117, 110, 100]
noncomputable def c66 : List Nat := [85, 97, 114, 116, 46, 116, 97, 107, 101, 95, 111, 117, 116]
noncomputable def c67 : List Nat := [98, 121, 116, 101, 115]
noncomputable def c68 : List Nat := [85, 97, 114, 116, 46, 115, 101, 110, 100]
noncomputable def c69 : List Nat := [101, 120, 116, 101, 110, 100]
noncomputable def c70 : List Nat := [85, 97, 114, 116, 46, 114, 101, 99, 101, 105, 118, 101]
noncomputable def c71 : List Nat := [85, 97, 114, 116, 46, 104, 97, 115, 95, 114, 101, 99, 101, 105, 118, 101, 100]
noncomputable def c72 : List Nat := [85, 97, 114, 116, 46, 105, 115, 95, 101, 109, 112, 116, 121, 95, 116, 111, 108, 100]
noncomputable def c73 : List Nat := [85, 97, 114, 116, 46, 105, 115, 95, 100, 117, 101]
noncomputable def c74 : List Nat := [85, 97, 114, 116, 46, 105, 115, 95, 100, 105, 118, 105, 115, 111, 114]
noncomputable def c75 : List Nat := [85, 97, 114, 116, 46, 115, 116, 97, 116, 117, 115]
noncomputable def c76 : List Nat := [105, 110, 116]
noncomputable def c77 : List Nat := [85, 97, 114, 116, 46, 105, 100, 101, 110, 116, 105, 102, 121]
noncomputable def c78 : List Nat := [112, 108, 97, 99, 101]
noncomputable def c79 : List Nat := [85, 97, 114, 116, 46, 108, 111, 97, 100]
noncomputable def c80 : List Nat := [118, 97, 108, 117, 101]
noncomputable def c81 : List Nat := [85, 97, 114, 116, 46, 115, 116, 111, 114, 101]
noncomputable def c82 : List Nat := [95, 95, 100, 105, 99, 116, 95, 95]
noncomputable def c83 : List Nat := [76, 105, 110, 101, 73, 110, 112, 117, 116]
noncomputable def c84 : List Nat := [70, 69, 69, 68]
noncomputable def c85 : List Nat := [82, 69, 84, 85, 82, 78]
noncomputable def c86 : List Nat := [66, 65, 67, 75]
noncomputable def c87 : List Nat := [68, 69, 76, 69, 84, 69]
noncomputable def c88 : List Nat := [75, 73, 76, 76]
noncomputable def c89 : List Nat := [69, 78, 68]
noncomputable def c90 : List Nat := [69, 82, 65, 83, 69, 68]
noncomputable def c91 : List Nat := [116, 97, 107, 101]
noncomputable def c92 : List Nat := [101, 114, 97, 115, 101]
noncomputable def c93 : List Nat := [116, 121, 112, 101, 100]
noncomputable def c94 : List Nat := [112, 117, 116]
noncomputable def c95 : List Nat := [114, 101, 97, 100]
noncomputable def c96 : List Nat := [117, 97, 114, 116]
noncomputable def c97 : List Nat := [76, 105, 110, 101, 73, 110, 112, 117, 116, 46, 95, 95, 105, 110, 105, 116, 95, 95]
noncomputable def c98 : List Nat := [115, 105, 122, 101, 32, 111, 102, 32, 116, 104, 101, 32, 105, 110, 112, 117, 116]
noncomputable def c99 : List Nat := [114, 101, 97, 100, 121]
noncomputable def c100 : List Nat := [76, 105, 110, 101, 73, 110, 112, 117, 116, 46, 116, 97, 107, 101]
noncomputable def c101 : List Nat := [76, 105, 110, 101, 73, 110, 112, 117, 116, 46, 101, 114, 97, 115, 101]
noncomputable def c102 : List Nat := [76, 105, 110, 101, 73, 110, 112, 117, 116, 46, 116, 121, 112, 101, 100]
noncomputable def c103 : List Nat := [76, 105, 110, 101, 73, 110, 112, 117, 116, 46, 112, 117, 116]
noncomputable def c104 : List Nat := [99, 111, 117, 110, 116]
noncomputable def c105 : List Nat := [109, 97, 110, 121]
noncomputable def c106 : List Nat := [76, 105, 110, 101, 73, 110, 112, 117, 116, 46, 114, 101, 97, 100]
noncomputable def c107 : List Nat := [97, 32, 99, 111, 117, 110, 116, 32, 98, 101, 108, 111, 119, 32, 48]
noncomputable def c108 : List Nat := [108, 97, 119, 95, 110, 122, 48, 50, 49, 54, 95, 48, 49]
noncomputable def c109 : List Nat := [95, 108, 97, 119, 95, 116, 97, 107, 101]
noncomputable def c110 : List Nat := [95, 108, 97, 119, 95, 109, 111, 114, 101]
noncomputable def c111 : List Nat := [95, 108, 97, 119, 95, 116, 121, 112, 101, 100]
noncomputable def c112 : List Nat := [95, 108, 97, 119, 95, 115, 99, 114, 101, 101, 110]
noncomputable def c113 : List Nat := [95, 108, 97, 119, 95, 114, 101, 97, 100, 115]
noncomputable def c114 : List Nat := [95, 108, 97, 119, 95, 108, 105, 110, 101, 95, 114, 105, 103, 104, 116]
noncomputable def c115 : List Nat := [108, 97, 119]
noncomputable def c116 : List Nat := [98, 111, 120]
noncomputable def c117 : List Nat := [102, 105, 103, 117, 114, 101]
noncomputable def c118 : List Nat := [112, 111, 112]
noncomputable def c119 : List Nat := [109, 97, 100, 101]
noncomputable def c120 : List Nat := [119, 97, 121]
noncomputable def c121 : List Nat := [114, 111, 119, 115]
noncomputable def c122 : List Nat := [114, 111, 119]
noncomputable def c123 : List Nat := [97, 116]
noncomputable def c124 : List Nat := [109, 97, 120]
noncomputable def c125 : List Nat := [101, 110, 100]
noncomputable def c126 : List Nat := [99, 111, 117, 110, 116, 115]
noncomputable def c127 : List Nat := [108, 101, 102, 116]
noncomputable def c128 : List Nat := [99, 111, 110, 115, 111, 108, 101]
noncomputable def c129 : List Nat := [114, 97, 110, 103, 101]
noncomputable def c130 : List Nat := [46, 48]
noncomputable def c131 : List Nat := [100, 117, 101]
noncomputable def c132 : List Nat := [116, 111, 108, 100]
noncomputable def c133 : List Nat := [102, 97, 115, 116]
noncomputable def c134 : List Nat := [115, 99, 114, 105, 112, 116]
noncomputable def c135 : List Nat := [109, 101, 97, 110, 116]
noncomputable def c136 : List Nat := [111, 112, 101, 110, 95, 114, 111, 119]
noncomputable def c137 : List Nat := [108, 97, 112]
noncomputable def c138 : List Nat := [106, 111, 105, 110]

structure Tx where
  S : List Nat → Str
  prog : Program
  tBaseexception : String
  tBuiltinFunctionOrMethod : String
  tBytearray : String
  tCode : String
  tDict : String
  tException : String
  tExceptiongroupWeakref : String
  tFrame : String
  tFunction : String
  tFunctionDict : String
  tFunctionDictSet : String
  tGetsetDescriptor : String
  tList : String
  tListIterator : String
  tMainLoaderOpaque : String
  tObject : String
  tObjectInitSubclass : String
  tObjectNew : String
  tStopiteration : String
  tSuper : String
  tTuple : String
  tType : String
  tTypePrepare : String
  tValueerror : String
  tValueerrorNew : String

noncomputable def okC (l : List Nat) : Bool := l.all fun c => Nat.blt c 128
noncomputable def SN (l : List Nat) : Str := match okC l with
  | true => Str.ofString (String.ofList (l.map Char.ofNat))
  | false => ⟨⟨l⟩⟩
noncomputable def ST (l : List Nat) : Str := ⟨⟨l⟩⟩
theorem SN_eq : SN = ST := by
  funext l
  unfold SN ST
  split
  · rename_i h
    rw [Fast.ofString_ofList, List.map_map]
    have : l.map (Char.toNat ∘ Char.ofNat) = l := by
      rw [List.map_congr_left (g := id), List.map_id]
      intro c hc
      have h1 := List.all_eq_true.mp h c hc
      have h2 : c < 128 := by simpa using h1
      show (Char.ofNat c).toNat = c
      have h3 : c.isValidChar := Or.inl (by omega)
      simp [Char.ofNat, h3, Char.ofNatAux, Char.toNat]
    rw [this]
  · rfl

noncomputable def XN : Tx := { S := SN, prog := PySem.Challenge.pw_nz0216_01, tBaseexception := "BaseException", tBuiltinFunctionOrMethod := "builtin_function_or_method", tBytearray := "bytearray", tCode := "code", tDict := "dict", tException := "Exception", tExceptiongroupWeakref := "ExceptionGroup.__weakref__", tFrame := "frame", tFunction := "function", tFunctionDict := "function.__dict__", tFunctionDictSet := "function.__dict__#set", tGetsetDescriptor := "getset_descriptor", tList := "list", tListIterator := "list_iterator", tMainLoaderOpaque := "__main__.__loader__#opaque", tObject := "object", tObjectInitSubclass := "object.__init_subclass__", tObjectNew := "object.__new__", tStopiteration := "StopIteration", tSuper := "super", tTuple := "tuple", tType := "type", tTypePrepare := "type.__prepare__", tValueerror := "ValueError", tValueerrorNew := "ValueError.__new__" }
noncomputable def XT : Tx := { S := ST, prog := PySem.W.Fast.tw8732699745486670314, tBaseexception := PySem.W.SL.s4278001404047624695x13, tBuiltinFunctionOrMethod := PySem.W.SL.s11030030927630378310x26, tBytearray := PySem.W.SL.s9501651726347032510x9, tCode := PySem.W.SL.s5856160107412720595x4, tDict := PySem.W.SL.s14018661285674007319x4, tException := PySem.W.SL.s5946037652744460706x9, tExceptiongroupWeakref := PySem.W.SL.s10220274742760427390x26, tFrame := PySem.W.SL.s658472552662922059x5, tFunction := PySem.W.SL.s7174869446012820540x8, tFunctionDict := PySem.W.SL.s6511155373996960695x17, tFunctionDictSet := PySem.W.SL.s12411053484034534018x21, tGetsetDescriptor := PySem.W.SL.s14755015743595814543x17, tList := PySem.W.SL.s9222952809800978799x4, tListIterator := PySem.W.SL.s3492446563574874994x13, tMainLoaderOpaque := PySem.W.SL.s7097527257260152453x26, tObject := PySem.W.SL.s2742458400755230247x6, tObjectInitSubclass := PySem.W.SL.s4860613602091757760x24, tObjectNew := PySem.W.SL.s11443829558043349243x14, tStopiteration := PySem.W.SL.s5991306692159431302x13, tSuper := PySem.W.SL.s4290257624100764138x5, tTuple := PySem.W.SL.s2766695959194262286x5, tType := PySem.W.SL.s17162191345867700912x4, tTypePrepare := PySem.W.SL.s10062305145149207511x16, tValueerror := PySem.W.SL.s6070975301684473832x10, tValueerrorNew := PySem.W.SL.s4209523147560561109x18 }
theorem X_eq : XN = XT := by
  unfold XN XT
  rw [SN_eq, PySem.W.Fast.te8732699745486670314, PySem.W.SL.e4278001404047624695x13, PySem.W.SL.e11030030927630378310x26, PySem.W.SL.e9501651726347032510x9, PySem.W.SL.e5856160107412720595x4, PySem.W.SL.e14018661285674007319x4, PySem.W.SL.e5946037652744460706x9, PySem.W.SL.e10220274742760427390x26, PySem.W.SL.e658472552662922059x5, PySem.W.SL.e7174869446012820540x8, PySem.W.SL.e6511155373996960695x17, PySem.W.SL.e12411053484034534018x21, PySem.W.SL.e14755015743595814543x17, PySem.W.SL.e9222952809800978799x4, PySem.W.SL.e3492446563574874994x13, PySem.W.SL.e7097527257260152453x26, PySem.W.SL.e2742458400755230247x6, PySem.W.SL.e4860613602091757760x24, PySem.W.SL.e11443829558043349243x14, PySem.W.SL.e5991306692159431302x13, PySem.W.SL.e4290257624100764138x5, PySem.W.SL.e2766695959194262286x5, PySem.W.SL.e17162191345867700912x4, PySem.W.SL.e10062305145149207511x16, PySem.W.SL.e6070975301684473832x10, PySem.W.SL.e4209523147560561109x18]

noncomputable def o43 (X : Tx) (P : Params) : Obj := Obj.mk (Value.type X.tTuple) none (Data.seq #[]) #[]
noncomputable def o44 (X : Tx) (P : Params) : Obj := Obj.mk Value.none none (Data.fields #[]) #[]
noncomputable def o45 (X : Tx) (P : Params) : Obj := Obj.mk (Value.type X.tCode) none (Data.fields #[Value.str (X.S c0) 182, Value.str (X.S c0) 183, Value.str (X.S c1) 184, Value.int 1 0, Value.int 0 0, Value.int 0 0, Value.int 0 0, Value.int 0 0, Value.ref 11, Value.bool false, Value.int 181 0, Value.ref 12, Value.none, Value.none, Value.none, Value.none, Value.int 185 0, Value.int 1 0, Value.str (X.S c1) 186]) #[]
noncomputable def o46 (X : Tx) (P : Params) : Obj := Obj.mk (Value.type X.tFrame) none Data.plain #[some (Value.ref 13), some (Value.ref 3), some (Value.ref 3), none, some (Value.str (X.S c2) 164), none, some (Value.ref 0)]
noncomputable def o49 (X : Tx) (P : Params) : Obj := Obj.mk (Value.type X.tDict) none (Data.dict #[DictEntry.mk (PyData.keyHash P (X.S c3)) (Value.str (X.S c3) 165) (Value.str (X.S c4) 194), DictEntry.mk (PyData.keyHash P (X.S c5)) (Value.str (X.S c5) 166) Value.none, DictEntry.mk (PyData.keyHash P (X.S c6)) (Value.str (X.S c6) 167) Value.none, DictEntry.mk (PyData.keyHash P (X.S c7)) (Value.str (X.S c7) 168) (Value.builtin X.tMainLoaderOpaque), DictEntry.mk (PyData.keyHash P (X.S c8)) (Value.str (X.S c8) 169) Value.none, DictEntry.mk (PyData.keyHash P (X.S c9)) (Value.str (X.S c9) 170) (Value.ref 6), DictEntry.mk (PyData.keyHash P (X.S c10)) (Value.str (X.S c10) 171) (Value.ref 4), DictEntry.mk (PyData.keyHash P (X.S c11)) (Value.str (X.S c11) 173) (Value.str (X.S c1) 172), DictEntry.mk (PyData.keyHash P (X.S c12)) (Value.str (X.S c12) 174) Value.none, DictEntry.mk (PyData.keyHash P (X.S c13)) (Value.str (X.S c13) 193) (Value.ref 21), DictEntry.mk (PyData.keyHash P (X.S c14)) (Value.str (X.S c14) 223) (Value.ref 39)] 11) #[]
noncomputable def o50 (X : Tx) (P : Params) : Obj := Obj.mk Value.none none (Data.fields #[Value.int 1 0, Value.int 0 0, Value.ref 20, Value.int 5 0, Value.int 0 0, Value.ref 27]) #[]
noncomputable def o51 (X : Tx) (P : Params) : Obj := Obj.mk (Value.type X.tTuple) none (Data.seq #[]) #[]
noncomputable def o52 (X : Tx) (P : Params) : Obj := Obj.mk Value.none none (Data.fields #[]) #[]
noncomputable def o53 (X : Tx) (P : Params) : Obj := Obj.mk (Value.type X.tTuple) none (Data.seq #[Value.str (X.S c15) 190]) #[]
noncomputable def o54 (X : Tx) (P : Params) : Obj := Obj.mk (Value.type X.tTuple) none (Data.seq #[]) #[]
noncomputable def o55 (X : Tx) (P : Params) : Obj := Obj.mk Value.none none (Data.func (FuncData.mk (X.S c13) (X.S c13) (parsOf (nth X.prog.main.body 0)) (.stmts (inner (nth X.prog.main.body 0))) (scopeOf (nth X.prog.main.body 0)) 0 [] Value.none Value.none Value.none Value.none none Value.none Value.none 0)) #[]
noncomputable def o56 (X : Tx) (P : Params) : Obj := Obj.mk (Value.type X.tCode) none (Data.fields #[Value.str (X.S c13) 187, Value.str (X.S c13) 188, Value.str (X.S c1) 189, Value.int 1 0, Value.int 1 0, Value.int 0 0, Value.int 0 0, Value.int 3 0, Value.ref 15, Value.bool true, Value.int 181 0, Value.ref 16, Value.none, Value.ref 17, Value.ref 18, Value.ref 19, Value.int 191 0, Value.int 1 0, Value.str (X.S c1) 192]) #[]
noncomputable def o57 (X : Tx) (P : Params) : Obj := Obj.mk (Value.type X.tFunction) none (Data.func (FuncData.mk (X.S c13) (X.S c13) (parsOf (nth X.prog.main.body 0)) (.stmts (inner (nth X.prog.main.body 0))) (scopeOf (nth X.prog.main.body 0)) 3 [] Value.none Value.none Value.none (Value.str (X.S c2) 164) none (Value.ref 20) Value.none 0)) #[]
noncomputable def o58 (X : Tx) (P : Params) : Obj := Obj.mk (Value.type X.tTuple) none (Data.seq #[Value.type X.tValueerror]) #[]
noncomputable def o59 (X : Tx) (P : Params) : Obj := Obj.mk (Value.type X.tBuiltinFunctionOrMethod) none (Data.fields #[Value.builtin X.tTypePrepare, Value.type X.tType]) #[]
noncomputable def o60 (X : Tx) (P : Params) : Obj := Obj.mk (Value.type X.tDict) none (Data.dict #[DictEntry.mk (PyData.keyHash P (X.S c16)) (Value.str (X.S c16) 203) (Value.str (X.S c4) 194), DictEntry.mk (PyData.keyHash P (X.S c17)) (Value.str (X.S c17) 205) (Value.str (X.S c14) 204), DictEntry.mk (PyData.keyHash P (X.S c18)) (Value.str (X.S c18) 207) (Value.int 5 206), DictEntry.mk (PyData.keyHash P (X.S c19)) (Value.str (X.S c19) 216) (Value.ref 36), DictEntry.mk (PyData.keyHash P (X.S c20)) (Value.str (X.S c20) 218) (Value.ref 37)] 5) #[]
noncomputable def o61 (X : Tx) (P : Params) : Obj := Obj.mk (Value.type X.tTuple) none (Data.seq #[]) #[]
noncomputable def o62 (X : Tx) (P : Params) : Obj := Obj.mk Value.none none (Data.fields #[Value.int 7 0, Value.int 4 0, Value.ref 35]) #[]
noncomputable def o63 (X : Tx) (P : Params) : Obj := Obj.mk (Value.type X.tCode) none (Data.fields #[Value.str (X.S c14) 198, Value.str (X.S c14) 199, Value.str (X.S c1) 200, Value.int 5 0, Value.int 0 0, Value.int 0 0, Value.int 0 0, Value.int 0 0, Value.ref 25, Value.bool false, Value.int 181 0, Value.ref 26, Value.none, Value.none, Value.none, Value.none, Value.int 201 0, Value.int 5 0, Value.str (X.S c1) 202]) #[]
noncomputable def o64 (X : Tx) (P : Params) : Obj := Obj.mk (Value.type X.tFrame) none Data.plain #[some (Value.ref 27), some (Value.ref 3), some (Value.ref 24), none, some (Value.str (X.S c4) 194), none, some (Value.ref 0)]
noncomputable def o65 (X : Tx) (P : Params) : Obj := Obj.mk (Value.type X.tTuple) none (Data.seq #[Value.str (X.S c21) 208]) #[]
noncomputable def o66 (X : Tx) (P : Params) : Obj := Obj.mk (Value.type X.tTuple) none (Data.seq #[]) #[]
noncomputable def o67 (X : Tx) (P : Params) : Obj := Obj.mk Value.none none (Data.fields #[]) #[]
noncomputable def o68 (X : Tx) (P : Params) : Obj := Obj.mk (Value.type X.tTuple) none (Data.seq #[Value.str (X.S c22) 212, Value.str (X.S c23) 213]) #[]
noncomputable def o69 (X : Tx) (P : Params) : Obj := Obj.mk (Value.type X.tTuple) none (Data.seq #[]) #[]
noncomputable def o70 (X : Tx) (P : Params) : Obj := Obj.mk Value.none none (Data.func (FuncData.mk (X.S c19) (X.S c24) (parsOf (nth (inner (nth X.prog.main.body 2)) 0)) (.stmts (inner (nth (inner (nth X.prog.main.body 2)) 0))) (scopeOf (nth (inner (nth X.prog.main.body 2)) 0)) 0 [] Value.none Value.none Value.none Value.none none Value.none Value.none 0)) #[]
noncomputable def o71 (X : Tx) (P : Params) : Obj := Obj.mk (Value.type X.tCode) none (Data.fields #[Value.str (X.S c19) 209, Value.str (X.S c24) 210, Value.str (X.S c1) 211, Value.int 7 0, Value.int 2 0, Value.int 0 0, Value.int 0 0, Value.int 3 0, Value.ref 30, Value.bool true, Value.int 181 0, Value.ref 31, Value.none, Value.ref 32, Value.ref 33, Value.ref 34, Value.int 214 0, Value.int 7 0, Value.str (X.S c1) 215]) #[]
noncomputable def o72 (X : Tx) (P : Params) : Obj := Obj.mk (Value.type X.tFunction) none (Data.func (FuncData.mk (X.S c19) (X.S c24) (parsOf (nth (inner (nth X.prog.main.body 2)) 0)) (.stmts (inner (nth (inner (nth X.prog.main.body 2)) 0))) (scopeOf (nth (inner (nth X.prog.main.body 2)) 0)) 3 [] (Value.ref 29) Value.none Value.none (Value.str (X.S c4) 194) none (Value.ref 35) Value.none 0)) #[]
noncomputable def o73 (X : Tx) (P : Params) : Obj := Obj.mk (Value.type X.tTuple) none (Data.seq #[Value.str (X.S c23) 217]) #[]
noncomputable def o74 (X : Tx) (P : Params) : Obj := Obj.mk (Value.type X.tDict) none (Data.dict #[DictEntry.mk (PyData.keyHash P (X.S c16)) (Value.str (X.S c16) 203) (Value.str (X.S c4) 194), DictEntry.mk (PyData.keyHash P (X.S c18)) (Value.str (X.S c18) 207) (Value.int 5 206), DictEntry.mk (PyData.keyHash P (X.S c19)) (Value.str (X.S c19) 216) (Value.ref 36), DictEntry.mk (PyData.keyHash P (X.S c20)) (Value.str (X.S c20) 218) (Value.ref 37), DictEntry.mk (PyData.keyHash P (X.S c26)) (Value.str (X.S c26) 220) (Value.ref 40), DictEntry.mk (PyData.keyHash P (X.S c5)) (Value.str (X.S c5) 221) Value.none] 3) #[]
noncomputable def o75 (X : Tx) (P : Params) : Obj := Obj.mk (Value.type X.tType) none (Data.cls (ClassData.mk (X.S c14) [Value.type X.tValueerror] [Value.ref 39, Value.type X.tValueerror, Value.type X.tException, Value.type X.tBaseexception, Value.type X.tObject] 38 (X.S c14) true [] [] false none false)) #[some (Value.ref 22), none, some (Value.str (X.S c14) 196), some (Value.str (X.S c14) 204), some (Value.builtin X.tValueerrorNew), some (Value.bool true)]
noncomputable def o76 (X : Tx) (P : Params) : Obj := Obj.mk (Value.type X.tGetsetDescriptor) none (Data.fields #[Value.str (X.S c26) 219, Value.ref 39, Value.builtin X.tExceptiongroupWeakref, Value.none]) #[]
noncomputable def o77 (X : Tx) (P : Params) : Obj := Obj.mk (Value.type X.tSuper) none (Data.fields #[Value.ref 39, Value.ref 39, Value.ref 39]) #[]
noncomputable def o78 (X : Tx) (P : Params) : Obj := Obj.mk (Value.type X.tBuiltinFunctionOrMethod) none (Data.fields #[Value.builtin X.tObjectInitSubclass, Value.ref 39]) #[]
noncomputable def o79 (X : Tx) (P : Params) : Obj := Obj.mk (Value.type X.tDict) none (Data.dict #[DictEntry.mk (PyData.keyHash P (X.S c3)) (Value.str (X.S c3) 165) (Value.str (X.S c27) 240), DictEntry.mk (PyData.keyHash P (X.S c5)) (Value.str (X.S c5) 166) Value.none, DictEntry.mk (PyData.keyHash P (X.S c6)) (Value.str (X.S c6) 167) Value.none, DictEntry.mk (PyData.keyHash P (X.S c7)) (Value.str (X.S c7) 168) (Value.builtin X.tMainLoaderOpaque), DictEntry.mk (PyData.keyHash P (X.S c8)) (Value.str (X.S c8) 169) Value.none, DictEntry.mk (PyData.keyHash P (X.S c9)) (Value.str (X.S c9) 170) (Value.ref 6), DictEntry.mk (PyData.keyHash P (X.S c10)) (Value.str (X.S c10) 171) (Value.ref 4), DictEntry.mk (PyData.keyHash P (X.S c11)) (Value.str (X.S c11) 173) (Value.str (X.S c1) 172), DictEntry.mk (PyData.keyHash P (X.S c12)) (Value.str (X.S c12) 174) Value.none, DictEntry.mk (PyData.keyHash P (X.S c13)) (Value.str (X.S c13) 193) (Value.ref 21), DictEntry.mk (PyData.keyHash P (X.S c14)) (Value.str (X.S c14) 223) (Value.ref 39), DictEntry.mk (PyData.keyHash P (X.S c28)) (Value.str (X.S c28) 239) (Value.ref 52)] 12) #[]
noncomputable def o80 (X : Tx) (P : Params) : Obj := Obj.mk Value.none none (Data.fields #[Value.int 1 0, Value.int 0 0, Value.ref 20, Value.int 5 0, Value.int 0 0, Value.ref 27, Value.int 10 0, Value.int 0 0, Value.ref 48]) #[]
noncomputable def o81 (X : Tx) (P : Params) : Obj := Obj.mk (Value.type X.tType) none (Data.cls (ClassData.mk (X.S c14) [Value.type X.tValueerror] [Value.ref 39, Value.type X.tValueerror, Value.type X.tException, Value.type X.tBaseexception, Value.type X.tObject] 38 (X.S c14) true [] [Value.ref 52] false none false)) #[some (Value.ref 22), none, some (Value.str (X.S c14) 196), some (Value.str (X.S c14) 204), some (Value.builtin X.tValueerrorNew), some (Value.bool true)]
noncomputable def o82 (X : Tx) (P : Params) : Obj := Obj.mk (Value.type X.tTuple) none (Data.seq #[Value.ref 39]) #[]
noncomputable def o83 (X : Tx) (P : Params) : Obj := Obj.mk (Value.type X.tBuiltinFunctionOrMethod) none (Data.fields #[Value.builtin X.tTypePrepare, Value.type X.tType]) #[]
noncomputable def o84 (X : Tx) (P : Params) : Obj := Obj.mk (Value.type X.tDict) none (Data.dict #[DictEntry.mk (PyData.keyHash P (X.S c16)) (Value.str (X.S c16) 231) (Value.str (X.S c4) 194), DictEntry.mk (PyData.keyHash P (X.S c17)) (Value.str (X.S c17) 233) (Value.str (X.S c28) 232), DictEntry.mk (PyData.keyHash P (X.S c18)) (Value.str (X.S c18) 235) (Value.int 10 234), DictEntry.mk (PyData.keyHash P (X.S c20)) (Value.str (X.S c20) 236) (Value.ref 50)] 4) #[]
noncomputable def o85 (X : Tx) (P : Params) : Obj := Obj.mk (Value.type X.tTuple) none (Data.seq #[]) #[]
noncomputable def o86 (X : Tx) (P : Params) : Obj := Obj.mk Value.none none (Data.fields #[]) #[]
noncomputable def o87 (X : Tx) (P : Params) : Obj := Obj.mk (Value.type X.tCode) none (Data.fields #[Value.str (X.S c28) 226, Value.str (X.S c28) 227, Value.str (X.S c1) 228, Value.int 10 0, Value.int 0 0, Value.int 0 0, Value.int 0 0, Value.int 0 0, Value.ref 46, Value.bool false, Value.int 181 0, Value.ref 47, Value.none, Value.none, Value.none, Value.none, Value.int 229 0, Value.int 10 0, Value.str (X.S c1) 230]) #[]
noncomputable def o88 (X : Tx) (P : Params) : Obj := Obj.mk (Value.type X.tFrame) none Data.plain #[some (Value.ref 48), some (Value.ref 3), some (Value.ref 45), none, some (Value.str (X.S c4) 194), none, some (Value.ref 0)]
noncomputable def o89 (X : Tx) (P : Params) : Obj := Obj.mk (Value.type X.tTuple) none (Data.seq #[]) #[]
noncomputable def o90 (X : Tx) (P : Params) : Obj := Obj.mk (Value.type X.tDict) none (Data.dict #[DictEntry.mk (PyData.keyHash P (X.S c16)) (Value.str (X.S c16) 231) (Value.str (X.S c4) 194), DictEntry.mk (PyData.keyHash P (X.S c18)) (Value.str (X.S c18) 235) (Value.int 10 234), DictEntry.mk (PyData.keyHash P (X.S c20)) (Value.str (X.S c20) 236) (Value.ref 50), DictEntry.mk (PyData.keyHash P (X.S c5)) (Value.str (X.S c5) 237) Value.none] 2) #[]
noncomputable def o91 (X : Tx) (P : Params) : Obj := Obj.mk (Value.type X.tType) none (Data.cls (ClassData.mk (X.S c28) [Value.ref 39] [Value.ref 52, Value.ref 39, Value.type X.tValueerror, Value.type X.tException, Value.type X.tBaseexception, Value.type X.tObject] 51 (X.S c28) true [] [] false none false)) #[some (Value.ref 43), none, some (Value.str (X.S c28) 224), some (Value.str (X.S c28) 232), some (Value.builtin X.tValueerrorNew), some (Value.bool true)]
noncomputable def o92 (X : Tx) (P : Params) : Obj := Obj.mk (Value.type X.tSuper) none (Data.fields #[Value.ref 52, Value.ref 52, Value.ref 52]) #[]
noncomputable def o93 (X : Tx) (P : Params) : Obj := Obj.mk (Value.type X.tBuiltinFunctionOrMethod) none (Data.fields #[Value.builtin X.tObjectInitSubclass, Value.ref 52]) #[]
noncomputable def o94 (X : Tx) (P : Params) : Obj := Obj.mk (Value.type X.tDict) none (Data.dict #[DictEntry.mk (PyData.keyHash P (X.S c3)) (Value.str (X.S c3) 165) (Value.str (X.S c27) 240), DictEntry.mk (PyData.keyHash P (X.S c5)) (Value.str (X.S c5) 166) Value.none, DictEntry.mk (PyData.keyHash P (X.S c6)) (Value.str (X.S c6) 167) Value.none, DictEntry.mk (PyData.keyHash P (X.S c7)) (Value.str (X.S c7) 168) (Value.builtin X.tMainLoaderOpaque), DictEntry.mk (PyData.keyHash P (X.S c8)) (Value.str (X.S c8) 169) Value.none, DictEntry.mk (PyData.keyHash P (X.S c9)) (Value.str (X.S c9) 170) (Value.ref 6), DictEntry.mk (PyData.keyHash P (X.S c10)) (Value.str (X.S c10) 171) (Value.ref 4), DictEntry.mk (PyData.keyHash P (X.S c11)) (Value.str (X.S c11) 173) (Value.str (X.S c1) 172), DictEntry.mk (PyData.keyHash P (X.S c12)) (Value.str (X.S c12) 174) Value.none, DictEntry.mk (PyData.keyHash P (X.S c13)) (Value.str (X.S c13) 193) (Value.ref 21), DictEntry.mk (PyData.keyHash P (X.S c14)) (Value.str (X.S c14) 223) (Value.ref 39), DictEntry.mk (PyData.keyHash P (X.S c28)) (Value.str (X.S c28) 239) (Value.ref 52), DictEntry.mk (PyData.keyHash P (X.S c29)) (Value.str (X.S c29) 387) (Value.ref 156)] 13) #[]
noncomputable def o95 (X : Tx) (P : Params) : Obj := Obj.mk Value.none none (Data.fields #[Value.int 1 0, Value.int 0 0, Value.ref 20, Value.int 5 0, Value.int 0 0, Value.ref 27, Value.int 10 0, Value.int 0 0, Value.ref 48, Value.int 13 0, Value.int 0 0, Value.ref 60]) #[]
noncomputable def o96 (X : Tx) (P : Params) : Obj := Obj.mk (Value.type X.tTuple) none (Data.seq #[]) #[]
noncomputable def o97 (X : Tx) (P : Params) : Obj := Obj.mk (Value.type X.tBuiltinFunctionOrMethod) none (Data.fields #[Value.builtin X.tTypePrepare, Value.type X.tType]) #[]
noncomputable def o98 (X : Tx) (P : Params) : Obj := Obj.mk (Value.type X.tDict) none (Data.dict #[DictEntry.mk (PyData.keyHash P (X.S c16)) (Value.str (X.S c16) 249) (Value.str (X.S c27) 240), DictEntry.mk (PyData.keyHash P (X.S c17)) (Value.str (X.S c17) 251) (Value.str (X.S c29) 250), DictEntry.mk (PyData.keyHash P (X.S c18)) (Value.str (X.S c18) 253) (Value.int 13 252), DictEntry.mk (PyData.keyHash P (X.S c30)) (Value.str (X.S c30) 255) (Value.int 0 254), DictEntry.mk (PyData.keyHash P (X.S c31)) (Value.str (X.S c31) 257) (Value.int 1 256), DictEntry.mk (PyData.keyHash P (X.S c32)) (Value.str (X.S c32) 259) (Value.int 2 258), DictEntry.mk (PyData.keyHash P (X.S c33)) (Value.str (X.S c33) 261) (Value.int 3 260), DictEntry.mk (PyData.keyHash P (X.S c34)) (Value.str (X.S c34) 263) (Value.int 5 262), DictEntry.mk (PyData.keyHash P (X.S c35)) (Value.str (X.S c35) 265) (Value.int 1 264), DictEntry.mk (PyData.keyHash P (X.S c36)) (Value.str (X.S c36) 267) (Value.int 2 266), DictEntry.mk (PyData.keyHash P (X.S c19)) (Value.str (X.S c19) 276) (Value.ref 69), DictEntry.mk (PyData.keyHash P (X.S c37)) (Value.str (X.S c37) 285) (Value.ref 76), DictEntry.mk (PyData.keyHash P (X.S c38)) (Value.str (X.S c38) 293) (Value.ref 83), DictEntry.mk (PyData.keyHash P (X.S c39)) (Value.str (X.S c39) 301) (Value.ref 90), DictEntry.mk (PyData.keyHash P (X.S c40)) (Value.str (X.S c40) 309) (Value.ref 97), DictEntry.mk (PyData.keyHash P (X.S c41)) (Value.str (X.S c41) 316) (Value.ref 104), DictEntry.mk (PyData.keyHash P (X.S c42)) (Value.str (X.S c42) 323) (Value.ref 111), DictEntry.mk (PyData.keyHash P (X.S c43)) (Value.str (X.S c43) 330) (Value.ref 118), DictEntry.mk (PyData.keyHash P (X.S c44)) (Value.str (X.S c44) 337) (Value.ref 125), DictEntry.mk (PyData.keyHash P (X.S c45)) (Value.str (X.S c45) 345) (Value.ref 132), DictEntry.mk (PyData.keyHash P (X.S c46)) (Value.str (X.S c46) 352) (Value.ref 139), DictEntry.mk (PyData.keyHash P (X.S c47)) (Value.str (X.S c47) 361) (Value.ref 146), DictEntry.mk (PyData.keyHash P (X.S c48)) (Value.str (X.S c48) 371) (Value.ref 153), DictEntry.mk (PyData.keyHash P (X.S c20)) (Value.str (X.S c20) 380) (Value.ref 154)] 24) #[]
noncomputable def o99 (X : Tx) (P : Params) : Obj := Obj.mk (Value.type X.tTuple) none (Data.seq #[]) #[]
noncomputable def o100 (X : Tx) (P : Params) : Obj := Obj.mk Value.none none (Data.fields #[Value.int 22 0, Value.int 4 0, Value.ref 68, Value.int 34 0, Value.int 4 0, Value.ref 75, Value.int 41 0, Value.int 4 0, Value.ref 82, Value.int 46 0, Value.int 4 0, Value.ref 89, Value.int 49 0, Value.int 4 0, Value.ref 96, Value.int 56 0, Value.int 4 0, Value.ref 103, Value.int 59 0, Value.int 4 0, Value.ref 110, Value.int 62 0, Value.int 4 0, Value.ref 117, Value.int 65 0, Value.int 4 0, Value.ref 124, Value.int 68 0, Value.int 4 0, Value.ref 131, Value.int 73 0, Value.int 4 0, Value.ref 138, Value.int 76 0, Value.int 4 0, Value.ref 145, Value.int 79 0, Value.int 4 0, Value.ref 152]) #[]
noncomputable def o101 (X : Tx) (P : Params) : Obj := Obj.mk (Value.type X.tCode) none (Data.fields #[Value.str (X.S c29) 244, Value.str (X.S c29) 245, Value.str (X.S c1) 246, Value.int 13 0, Value.int 0 0, Value.int 0 0, Value.int 0 0, Value.int 0 0, Value.ref 58, Value.bool false, Value.int 181 0, Value.ref 59, Value.none, Value.none, Value.none, Value.none, Value.int 247 0, Value.int 13 0, Value.str (X.S c1) 248]) #[]
noncomputable def o102 (X : Tx) (P : Params) : Obj := Obj.mk (Value.type X.tFrame) none Data.plain #[some (Value.ref 60), some (Value.ref 3), some (Value.ref 57), none, some (Value.str (X.S c27) 240), none, some (Value.ref 0)]
noncomputable def o103 (X : Tx) (P : Params) : Obj := Obj.mk (Value.type X.tTuple) none (Data.seq #[Value.int 16 268]) #[]
noncomputable def o104 (X : Tx) (P : Params) : Obj := Obj.mk (Value.type X.tTuple) none (Data.seq #[]) #[]
noncomputable def o105 (X : Tx) (P : Params) : Obj := Obj.mk Value.none none (Data.fields #[]) #[]
noncomputable def o106 (X : Tx) (P : Params) : Obj := Obj.mk (Value.type X.tTuple) none (Data.seq #[Value.str (X.S c22) 272, Value.str (X.S c49) 273]) #[]
noncomputable def o107 (X : Tx) (P : Params) : Obj := Obj.mk (Value.type X.tTuple) none (Data.seq #[]) #[]
noncomputable def o108 (X : Tx) (P : Params) : Obj := Obj.mk Value.none none (Data.func (FuncData.mk (X.S c19) (X.S c50) (parsOf (nth (inner (nth X.prog.main.body 5)) 7)) (.stmts (inner (nth (inner (nth X.prog.main.body 5)) 7))) (scopeOf (nth (inner (nth X.prog.main.body 5)) 7)) 0 [] Value.none Value.none Value.none Value.none none Value.none Value.none 0)) #[]
noncomputable def o109 (X : Tx) (P : Params) : Obj := Obj.mk (Value.type X.tCode) none (Data.fields #[Value.str (X.S c19) 269, Value.str (X.S c50) 270, Value.str (X.S c1) 271, Value.int 22 0, Value.int 2 0, Value.int 0 0, Value.int 0 0, Value.int 3 0, Value.ref 63, Value.bool true, Value.int 181 0, Value.ref 64, Value.none, Value.ref 65, Value.ref 66, Value.ref 67, Value.int 274 0, Value.int 22 0, Value.str (X.S c1) 275]) #[]
noncomputable def o110 (X : Tx) (P : Params) : Obj := Obj.mk (Value.type X.tFunction) none (Data.func (FuncData.mk (X.S c19) (X.S c50) (parsOf (nth (inner (nth X.prog.main.body 5)) 7)) (.stmts (inner (nth (inner (nth X.prog.main.body 5)) 7))) (scopeOf (nth (inner (nth X.prog.main.body 5)) 7)) 3 [] (Value.ref 62) Value.none Value.none (Value.str (X.S c27) 240) none (Value.ref 68) Value.none 0)) #[]
noncomputable def o111 (X : Tx) (P : Params) : Obj := Obj.mk (Value.type X.tTuple) none (Data.seq #[]) #[]
noncomputable def o112 (X : Tx) (P : Params) : Obj := Obj.mk Value.none none (Data.fields #[]) #[]
noncomputable def o113 (X : Tx) (P : Params) : Obj := Obj.mk (Value.type X.tTuple) none (Data.seq #[Value.str (X.S c22) 280, Value.str (X.S c60) 281, Value.str (X.S c61) 282]) #[]
noncomputable def o114 (X : Tx) (P : Params) : Obj := Obj.mk (Value.type X.tTuple) none (Data.seq #[]) #[]
noncomputable def o115 (X : Tx) (P : Params) : Obj := Obj.mk Value.none none (Data.func (FuncData.mk (X.S c37) (X.S c62) (parsOf (nth (inner (nth X.prog.main.body 5)) 8)) (.stmts (inner (nth (inner (nth X.prog.main.body 5)) 8))) (scopeOf (nth (inner (nth X.prog.main.body 5)) 8)) 0 [] Value.none Value.none Value.none Value.none none Value.none Value.none 0)) #[]
noncomputable def o116 (X : Tx) (P : Params) : Obj := Obj.mk (Value.type X.tCode) none (Data.fields #[Value.str (X.S c37) 277, Value.str (X.S c62) 278, Value.str (X.S c1) 279, Value.int 34 0, Value.int 2 0, Value.int 0 0, Value.int 0 0, Value.int 3 0, Value.ref 70, Value.bool true, Value.int 181 0, Value.ref 71, Value.none, Value.ref 72, Value.ref 73, Value.ref 74, Value.int 283 0, Value.int 34 0, Value.str (X.S c1) 284]) #[]
noncomputable def o117 (X : Tx) (P : Params) : Obj := Obj.mk (Value.type X.tFunction) none (Data.func (FuncData.mk (X.S c37) (X.S c62) (parsOf (nth (inner (nth X.prog.main.body 5)) 8)) (.stmts (inner (nth (inner (nth X.prog.main.body 5)) 8))) (scopeOf (nth (inner (nth X.prog.main.body 5)) 8)) 3 [] Value.none Value.none Value.none (Value.str (X.S c27) 240) none (Value.ref 75) Value.none 0)) #[]
noncomputable def o118 (X : Tx) (P : Params) : Obj := Obj.mk (Value.type X.tTuple) none (Data.seq #[]) #[]
noncomputable def o119 (X : Tx) (P : Params) : Obj := Obj.mk Value.none none (Data.fields #[]) #[]
noncomputable def o120 (X : Tx) (P : Params) : Obj := Obj.mk (Value.type X.tTuple) none (Data.seq #[Value.str (X.S c22) 289, Value.str (X.S c65) 290]) #[]
noncomputable def o121 (X : Tx) (P : Params) : Obj := Obj.mk (Value.type X.tTuple) none (Data.seq #[]) #[]
noncomputable def o122 (X : Tx) (P : Params) : Obj := Obj.mk Value.none none (Data.func (FuncData.mk (X.S c38) (X.S c66) (parsOf (nth (inner (nth X.prog.main.body 5)) 9)) (.stmts (inner (nth (inner (nth X.prog.main.body 5)) 9))) (scopeOf (nth (inner (nth X.prog.main.body 5)) 9)) 0 [] Value.none Value.none Value.none Value.none none Value.none Value.none 0)) #[]
noncomputable def o123 (X : Tx) (P : Params) : Obj := Obj.mk (Value.type X.tCode) none (Data.fields #[Value.str (X.S c38) 286, Value.str (X.S c66) 287, Value.str (X.S c1) 288, Value.int 41 0, Value.int 1 0, Value.int 0 0, Value.int 0 0, Value.int 3 0, Value.ref 77, Value.bool true, Value.int 181 0, Value.ref 78, Value.none, Value.ref 79, Value.ref 80, Value.ref 81, Value.int 291 0, Value.int 41 0, Value.str (X.S c1) 292]) #[]
noncomputable def o124 (X : Tx) (P : Params) : Obj := Obj.mk (Value.type X.tFunction) none (Data.func (FuncData.mk (X.S c38) (X.S c66) (parsOf (nth (inner (nth X.prog.main.body 5)) 9)) (.stmts (inner (nth (inner (nth X.prog.main.body 5)) 9))) (scopeOf (nth (inner (nth X.prog.main.body 5)) 9)) 3 [] Value.none Value.none Value.none (Value.str (X.S c27) 240) none (Value.ref 82) Value.none 0)) #[]
noncomputable def o125 (X : Tx) (P : Params) : Obj := Obj.mk (Value.type X.tTuple) none (Data.seq #[]) #[]
noncomputable def o126 (X : Tx) (P : Params) : Obj := Obj.mk Value.none none (Data.fields #[]) #[]
noncomputable def o127 (X : Tx) (P : Params) : Obj := Obj.mk (Value.type X.tTuple) none (Data.seq #[Value.str (X.S c22) 297, Value.str (X.S c60) 298]) #[]
noncomputable def o128 (X : Tx) (P : Params) : Obj := Obj.mk (Value.type X.tTuple) none (Data.seq #[]) #[]
noncomputable def o129 (X : Tx) (P : Params) : Obj := Obj.mk Value.none none (Data.func (FuncData.mk (X.S c39) (X.S c68) (parsOf (nth (inner (nth X.prog.main.body 5)) 10)) (.stmts (inner (nth (inner (nth X.prog.main.body 5)) 10))) (scopeOf (nth (inner (nth X.prog.main.body 5)) 10)) 0 [] Value.none Value.none Value.none Value.none none Value.none Value.none 0)) #[]
noncomputable def o130 (X : Tx) (P : Params) : Obj := Obj.mk (Value.type X.tCode) none (Data.fields #[Value.str (X.S c39) 294, Value.str (X.S c68) 295, Value.str (X.S c1) 296, Value.int 46 0, Value.int 2 0, Value.int 0 0, Value.int 0 0, Value.int 3 0, Value.ref 84, Value.bool true, Value.int 181 0, Value.ref 85, Value.none, Value.ref 86, Value.ref 87, Value.ref 88, Value.int 299 0, Value.int 46 0, Value.str (X.S c1) 300]) #[]
noncomputable def o131 (X : Tx) (P : Params) : Obj := Obj.mk (Value.type X.tFunction) none (Data.func (FuncData.mk (X.S c39) (X.S c68) (parsOf (nth (inner (nth X.prog.main.body 5)) 10)) (.stmts (inner (nth (inner (nth X.prog.main.body 5)) 10))) (scopeOf (nth (inner (nth X.prog.main.body 5)) 10)) 3 [] Value.none Value.none Value.none (Value.str (X.S c27) 240) none (Value.ref 89) Value.none 0)) #[]
noncomputable def o132 (X : Tx) (P : Params) : Obj := Obj.mk (Value.type X.tTuple) none (Data.seq #[]) #[]
noncomputable def o133 (X : Tx) (P : Params) : Obj := Obj.mk Value.none none (Data.fields #[]) #[]
noncomputable def o134 (X : Tx) (P : Params) : Obj := Obj.mk (Value.type X.tTuple) none (Data.seq #[Value.str (X.S c22) 305, Value.str (X.S c65) 306]) #[]
noncomputable def o135 (X : Tx) (P : Params) : Obj := Obj.mk (Value.type X.tTuple) none (Data.seq #[]) #[]
noncomputable def o136 (X : Tx) (P : Params) : Obj := Obj.mk Value.none none (Data.func (FuncData.mk (X.S c40) (X.S c70) (parsOf (nth (inner (nth X.prog.main.body 5)) 11)) (.stmts (inner (nth (inner (nth X.prog.main.body 5)) 11))) (scopeOf (nth (inner (nth X.prog.main.body 5)) 11)) 0 [] Value.none Value.none Value.none Value.none none Value.none Value.none 0)) #[]
noncomputable def o137 (X : Tx) (P : Params) : Obj := Obj.mk (Value.type X.tCode) none (Data.fields #[Value.str (X.S c40) 302, Value.str (X.S c70) 303, Value.str (X.S c1) 304, Value.int 49 0, Value.int 1 0, Value.int 0 0, Value.int 0 0, Value.int 3 0, Value.ref 91, Value.bool true, Value.int 181 0, Value.ref 92, Value.none, Value.ref 93, Value.ref 94, Value.ref 95, Value.int 307 0, Value.int 49 0, Value.str (X.S c1) 308]) #[]
noncomputable def o138 (X : Tx) (P : Params) : Obj := Obj.mk (Value.type X.tFunction) none (Data.func (FuncData.mk (X.S c40) (X.S c70) (parsOf (nth (inner (nth X.prog.main.body 5)) 11)) (.stmts (inner (nth (inner (nth X.prog.main.body 5)) 11))) (scopeOf (nth (inner (nth X.prog.main.body 5)) 11)) 3 [] Value.none Value.none Value.none (Value.str (X.S c27) 240) none (Value.ref 96) Value.none 0)) #[]
noncomputable def o139 (X : Tx) (P : Params) : Obj := Obj.mk (Value.type X.tTuple) none (Data.seq #[]) #[]
noncomputable def o140 (X : Tx) (P : Params) : Obj := Obj.mk Value.none none (Data.fields #[]) #[]
noncomputable def o141 (X : Tx) (P : Params) : Obj := Obj.mk (Value.type X.tTuple) none (Data.seq #[Value.str (X.S c22) 313]) #[]
noncomputable def o142 (X : Tx) (P : Params) : Obj := Obj.mk (Value.type X.tTuple) none (Data.seq #[]) #[]
noncomputable def o143 (X : Tx) (P : Params) : Obj := Obj.mk Value.none none (Data.func (FuncData.mk (X.S c41) (X.S c71) (parsOf (nth (inner (nth X.prog.main.body 5)) 12)) (.stmts (inner (nth (inner (nth X.prog.main.body 5)) 12))) (scopeOf (nth (inner (nth X.prog.main.body 5)) 12)) 0 [] Value.none Value.none Value.none Value.none none Value.none Value.none 0)) #[]
noncomputable def o144 (X : Tx) (P : Params) : Obj := Obj.mk (Value.type X.tCode) none (Data.fields #[Value.str (X.S c41) 310, Value.str (X.S c71) 311, Value.str (X.S c1) 312, Value.int 56 0, Value.int 1 0, Value.int 0 0, Value.int 0 0, Value.int 3 0, Value.ref 98, Value.bool true, Value.int 181 0, Value.ref 99, Value.none, Value.ref 100, Value.ref 101, Value.ref 102, Value.int 314 0, Value.int 56 0, Value.str (X.S c1) 315]) #[]
noncomputable def o145 (X : Tx) (P : Params) : Obj := Obj.mk (Value.type X.tFunction) none (Data.func (FuncData.mk (X.S c41) (X.S c71) (parsOf (nth (inner (nth X.prog.main.body 5)) 12)) (.stmts (inner (nth (inner (nth X.prog.main.body 5)) 12))) (scopeOf (nth (inner (nth X.prog.main.body 5)) 12)) 3 [] Value.none Value.none Value.none (Value.str (X.S c27) 240) none (Value.ref 103) Value.none 0)) #[]
noncomputable def o146 (X : Tx) (P : Params) : Obj := Obj.mk (Value.type X.tTuple) none (Data.seq #[]) #[]
noncomputable def o147 (X : Tx) (P : Params) : Obj := Obj.mk Value.none none (Data.fields #[]) #[]
noncomputable def o148 (X : Tx) (P : Params) : Obj := Obj.mk (Value.type X.tTuple) none (Data.seq #[Value.str (X.S c22) 320]) #[]
noncomputable def o149 (X : Tx) (P : Params) : Obj := Obj.mk (Value.type X.tTuple) none (Data.seq #[]) #[]
noncomputable def o150 (X : Tx) (P : Params) : Obj := Obj.mk Value.none none (Data.func (FuncData.mk (X.S c42) (X.S c72) (parsOf (nth (inner (nth X.prog.main.body 5)) 13)) (.stmts (inner (nth (inner (nth X.prog.main.body 5)) 13))) (scopeOf (nth (inner (nth X.prog.main.body 5)) 13)) 0 [] Value.none Value.none Value.none Value.none none Value.none Value.none 0)) #[]
noncomputable def o151 (X : Tx) (P : Params) : Obj := Obj.mk (Value.type X.tCode) none (Data.fields #[Value.str (X.S c42) 317, Value.str (X.S c72) 318, Value.str (X.S c1) 319, Value.int 59 0, Value.int 1 0, Value.int 0 0, Value.int 0 0, Value.int 3 0, Value.ref 105, Value.bool true, Value.int 181 0, Value.ref 106, Value.none, Value.ref 107, Value.ref 108, Value.ref 109, Value.int 321 0, Value.int 59 0, Value.str (X.S c1) 322]) #[]
noncomputable def o152 (X : Tx) (P : Params) : Obj := Obj.mk (Value.type X.tFunction) none (Data.func (FuncData.mk (X.S c42) (X.S c72) (parsOf (nth (inner (nth X.prog.main.body 5)) 13)) (.stmts (inner (nth (inner (nth X.prog.main.body 5)) 13))) (scopeOf (nth (inner (nth X.prog.main.body 5)) 13)) 3 [] Value.none Value.none Value.none (Value.str (X.S c27) 240) none (Value.ref 110) Value.none 0)) #[]
noncomputable def o153 (X : Tx) (P : Params) : Obj := Obj.mk (Value.type X.tTuple) none (Data.seq #[]) #[]
noncomputable def o154 (X : Tx) (P : Params) : Obj := Obj.mk Value.none none (Data.fields #[]) #[]
noncomputable def o155 (X : Tx) (P : Params) : Obj := Obj.mk (Value.type X.tTuple) none (Data.seq #[Value.str (X.S c22) 327]) #[]
noncomputable def o156 (X : Tx) (P : Params) : Obj := Obj.mk (Value.type X.tTuple) none (Data.seq #[]) #[]
noncomputable def o157 (X : Tx) (P : Params) : Obj := Obj.mk Value.none none (Data.func (FuncData.mk (X.S c43) (X.S c73) (parsOf (nth (inner (nth X.prog.main.body 5)) 14)) (.stmts (inner (nth (inner (nth X.prog.main.body 5)) 14))) (scopeOf (nth (inner (nth X.prog.main.body 5)) 14)) 0 [] Value.none Value.none Value.none Value.none none Value.none Value.none 0)) #[]
noncomputable def o158 (X : Tx) (P : Params) : Obj := Obj.mk (Value.type X.tCode) none (Data.fields #[Value.str (X.S c43) 324, Value.str (X.S c73) 325, Value.str (X.S c1) 326, Value.int 62 0, Value.int 1 0, Value.int 0 0, Value.int 0 0, Value.int 3 0, Value.ref 112, Value.bool true, Value.int 181 0, Value.ref 113, Value.none, Value.ref 114, Value.ref 115, Value.ref 116, Value.int 328 0, Value.int 62 0, Value.str (X.S c1) 329]) #[]
noncomputable def o159 (X : Tx) (P : Params) : Obj := Obj.mk (Value.type X.tFunction) none (Data.func (FuncData.mk (X.S c43) (X.S c73) (parsOf (nth (inner (nth X.prog.main.body 5)) 14)) (.stmts (inner (nth (inner (nth X.prog.main.body 5)) 14))) (scopeOf (nth (inner (nth X.prog.main.body 5)) 14)) 3 [] Value.none Value.none Value.none (Value.str (X.S c27) 240) none (Value.ref 117) Value.none 0)) #[]
noncomputable def o160 (X : Tx) (P : Params) : Obj := Obj.mk (Value.type X.tTuple) none (Data.seq #[]) #[]
noncomputable def o161 (X : Tx) (P : Params) : Obj := Obj.mk Value.none none (Data.fields #[]) #[]
noncomputable def o162 (X : Tx) (P : Params) : Obj := Obj.mk (Value.type X.tTuple) none (Data.seq #[Value.str (X.S c22) 334]) #[]
noncomputable def o163 (X : Tx) (P : Params) : Obj := Obj.mk (Value.type X.tTuple) none (Data.seq #[]) #[]
noncomputable def o164 (X : Tx) (P : Params) : Obj := Obj.mk Value.none none (Data.func (FuncData.mk (X.S c44) (X.S c74) (parsOf (nth (inner (nth X.prog.main.body 5)) 15)) (.stmts (inner (nth (inner (nth X.prog.main.body 5)) 15))) (scopeOf (nth (inner (nth X.prog.main.body 5)) 15)) 0 [] Value.none Value.none Value.none Value.none none Value.none Value.none 0)) #[]
noncomputable def o165 (X : Tx) (P : Params) : Obj := Obj.mk (Value.type X.tCode) none (Data.fields #[Value.str (X.S c44) 331, Value.str (X.S c74) 332, Value.str (X.S c1) 333, Value.int 65 0, Value.int 1 0, Value.int 0 0, Value.int 0 0, Value.int 3 0, Value.ref 119, Value.bool true, Value.int 181 0, Value.ref 120, Value.none, Value.ref 121, Value.ref 122, Value.ref 123, Value.int 335 0, Value.int 65 0, Value.str (X.S c1) 336]) #[]
noncomputable def o166 (X : Tx) (P : Params) : Obj := Obj.mk (Value.type X.tFunction) none (Data.func (FuncData.mk (X.S c44) (X.S c74) (parsOf (nth (inner (nth X.prog.main.body 5)) 15)) (.stmts (inner (nth (inner (nth X.prog.main.body 5)) 15))) (scopeOf (nth (inner (nth X.prog.main.body 5)) 15)) 3 [] Value.none Value.none Value.none (Value.str (X.S c27) 240) none (Value.ref 124) Value.none 0)) #[]
noncomputable def o167 (X : Tx) (P : Params) : Obj := Obj.mk (Value.type X.tTuple) none (Data.seq #[]) #[]
noncomputable def o168 (X : Tx) (P : Params) : Obj := Obj.mk Value.none none (Data.fields #[]) #[]
noncomputable def o169 (X : Tx) (P : Params) : Obj := Obj.mk (Value.type X.tTuple) none (Data.seq #[Value.str (X.S c22) 341, Value.str (X.S c65) 342]) #[]
noncomputable def o170 (X : Tx) (P : Params) : Obj := Obj.mk (Value.type X.tTuple) none (Data.seq #[]) #[]
noncomputable def o171 (X : Tx) (P : Params) : Obj := Obj.mk Value.none none (Data.func (FuncData.mk (X.S c45) (X.S c75) (parsOf (nth (inner (nth X.prog.main.body 5)) 16)) (.stmts (inner (nth (inner (nth X.prog.main.body 5)) 16))) (scopeOf (nth (inner (nth X.prog.main.body 5)) 16)) 0 [] Value.none Value.none Value.none Value.none none Value.none Value.none 0)) #[]
noncomputable def o172 (X : Tx) (P : Params) : Obj := Obj.mk (Value.type X.tCode) none (Data.fields #[Value.str (X.S c45) 338, Value.str (X.S c75) 339, Value.str (X.S c1) 340, Value.int 68 0, Value.int 1 0, Value.int 0 0, Value.int 0 0, Value.int 3 0, Value.ref 126, Value.bool true, Value.int 181 0, Value.ref 127, Value.none, Value.ref 128, Value.ref 129, Value.ref 130, Value.int 343 0, Value.int 68 0, Value.str (X.S c1) 344]) #[]
noncomputable def o173 (X : Tx) (P : Params) : Obj := Obj.mk (Value.type X.tFunction) none (Data.func (FuncData.mk (X.S c45) (X.S c75) (parsOf (nth (inner (nth X.prog.main.body 5)) 16)) (.stmts (inner (nth (inner (nth X.prog.main.body 5)) 16))) (scopeOf (nth (inner (nth X.prog.main.body 5)) 16)) 3 [] Value.none Value.none Value.none (Value.str (X.S c27) 240) none (Value.ref 131) Value.none 0)) #[]
noncomputable def o174 (X : Tx) (P : Params) : Obj := Obj.mk (Value.type X.tTuple) none (Data.seq #[]) #[]
noncomputable def o175 (X : Tx) (P : Params) : Obj := Obj.mk Value.none none (Data.fields #[]) #[]
noncomputable def o176 (X : Tx) (P : Params) : Obj := Obj.mk (Value.type X.tTuple) none (Data.seq #[Value.str (X.S c22) 349]) #[]
noncomputable def o177 (X : Tx) (P : Params) : Obj := Obj.mk (Value.type X.tTuple) none (Data.seq #[]) #[]
noncomputable def o178 (X : Tx) (P : Params) : Obj := Obj.mk Value.none none (Data.func (FuncData.mk (X.S c46) (X.S c77) (parsOf (nth (inner (nth X.prog.main.body 5)) 17)) (.stmts (inner (nth (inner (nth X.prog.main.body 5)) 17))) (scopeOf (nth (inner (nth X.prog.main.body 5)) 17)) 0 [] Value.none Value.none Value.none Value.none none Value.none Value.none 0)) #[]
noncomputable def o179 (X : Tx) (P : Params) : Obj := Obj.mk (Value.type X.tCode) none (Data.fields #[Value.str (X.S c46) 346, Value.str (X.S c77) 347, Value.str (X.S c1) 348, Value.int 73 0, Value.int 1 0, Value.int 0 0, Value.int 0 0, Value.int 3 0, Value.ref 133, Value.bool true, Value.int 181 0, Value.ref 134, Value.none, Value.ref 135, Value.ref 136, Value.ref 137, Value.int 350 0, Value.int 73 0, Value.str (X.S c1) 351]) #[]
noncomputable def o180 (X : Tx) (P : Params) : Obj := Obj.mk (Value.type X.tFunction) none (Data.func (FuncData.mk (X.S c46) (X.S c77) (parsOf (nth (inner (nth X.prog.main.body 5)) 17)) (.stmts (inner (nth (inner (nth X.prog.main.body 5)) 17))) (scopeOf (nth (inner (nth X.prog.main.body 5)) 17)) 3 [] Value.none Value.none Value.none (Value.str (X.S c27) 240) none (Value.ref 138) Value.none 0)) #[]
noncomputable def o181 (X : Tx) (P : Params) : Obj := Obj.mk (Value.type X.tTuple) none (Data.seq #[]) #[]
noncomputable def o182 (X : Tx) (P : Params) : Obj := Obj.mk Value.none none (Data.fields #[]) #[]
noncomputable def o183 (X : Tx) (P : Params) : Obj := Obj.mk (Value.type X.tTuple) none (Data.seq #[Value.str (X.S c22) 356, Value.str (X.S c78) 357, Value.str (X.S c49) 358]) #[]
noncomputable def o184 (X : Tx) (P : Params) : Obj := Obj.mk (Value.type X.tTuple) none (Data.seq #[]) #[]
noncomputable def o185 (X : Tx) (P : Params) : Obj := Obj.mk Value.none none (Data.func (FuncData.mk (X.S c47) (X.S c79) (parsOf (nth (inner (nth X.prog.main.body 5)) 18)) (.stmts (inner (nth (inner (nth X.prog.main.body 5)) 18))) (scopeOf (nth (inner (nth X.prog.main.body 5)) 18)) 0 [] Value.none Value.none Value.none Value.none none Value.none Value.none 0)) #[]
noncomputable def o186 (X : Tx) (P : Params) : Obj := Obj.mk (Value.type X.tCode) none (Data.fields #[Value.str (X.S c47) 353, Value.str (X.S c79) 354, Value.str (X.S c1) 355, Value.int 76 0, Value.int 3 0, Value.int 0 0, Value.int 0 0, Value.int 3 0, Value.ref 140, Value.bool true, Value.int 181 0, Value.ref 141, Value.none, Value.ref 142, Value.ref 143, Value.ref 144, Value.int 359 0, Value.int 76 0, Value.str (X.S c1) 360]) #[]
noncomputable def o187 (X : Tx) (P : Params) : Obj := Obj.mk (Value.type X.tFunction) none (Data.func (FuncData.mk (X.S c47) (X.S c79) (parsOf (nth (inner (nth X.prog.main.body 5)) 18)) (.stmts (inner (nth (inner (nth X.prog.main.body 5)) 18))) (scopeOf (nth (inner (nth X.prog.main.body 5)) 18)) 3 [] Value.none Value.none Value.none (Value.str (X.S c27) 240) none (Value.ref 145) Value.none 0)) #[]
noncomputable def o188 (X : Tx) (P : Params) : Obj := Obj.mk (Value.type X.tTuple) none (Data.seq #[]) #[]
noncomputable def o189 (X : Tx) (P : Params) : Obj := Obj.mk Value.none none (Data.fields #[]) #[]
noncomputable def o190 (X : Tx) (P : Params) : Obj := Obj.mk (Value.type X.tTuple) none (Data.seq #[Value.str (X.S c22) 365, Value.str (X.S c78) 366, Value.str (X.S c49) 367, Value.str (X.S c80) 368]) #[]
noncomputable def o191 (X : Tx) (P : Params) : Obj := Obj.mk (Value.type X.tTuple) none (Data.seq #[]) #[]
noncomputable def o192 (X : Tx) (P : Params) : Obj := Obj.mk Value.none none (Data.func (FuncData.mk (X.S c48) (X.S c81) (parsOf (nth (inner (nth X.prog.main.body 5)) 19)) (.stmts (inner (nth (inner (nth X.prog.main.body 5)) 19))) (scopeOf (nth (inner (nth X.prog.main.body 5)) 19)) 0 [] Value.none Value.none Value.none Value.none none Value.none Value.none 0)) #[]
noncomputable def o193 (X : Tx) (P : Params) : Obj := Obj.mk (Value.type X.tCode) none (Data.fields #[Value.str (X.S c48) 362, Value.str (X.S c81) 363, Value.str (X.S c1) 364, Value.int 79 0, Value.int 4 0, Value.int 0 0, Value.int 0 0, Value.int 3 0, Value.ref 147, Value.bool true, Value.int 181 0, Value.ref 148, Value.none, Value.ref 149, Value.ref 150, Value.ref 151, Value.int 369 0, Value.int 79 0, Value.str (X.S c1) 370]) #[]
noncomputable def o194 (X : Tx) (P : Params) : Obj := Obj.mk (Value.type X.tFunction) none (Data.func (FuncData.mk (X.S c48) (X.S c81) (parsOf (nth (inner (nth X.prog.main.body 5)) 19)) (.stmts (inner (nth (inner (nth X.prog.main.body 5)) 19))) (scopeOf (nth (inner (nth X.prog.main.body 5)) 19)) 3 [] Value.none Value.none Value.none (Value.str (X.S c27) 240) none (Value.ref 152) Value.none 0)) #[]
noncomputable def o195 (X : Tx) (P : Params) : Obj := Obj.mk (Value.type X.tTuple) none (Data.seq #[Value.str (X.S c57) 372, Value.str (X.S c55) 373, Value.str (X.S c56) 374, Value.str (X.S c58) 375, Value.str (X.S c52) 376, Value.str (X.S c59) 377, Value.str (X.S c49) 378, Value.str (X.S c54) 379]) #[]
noncomputable def o196 (X : Tx) (P : Params) : Obj := Obj.mk (Value.type X.tDict) none (Data.dict #[DictEntry.mk (PyData.keyHash P (X.S c16)) (Value.str (X.S c16) 249) (Value.str (X.S c27) 240), DictEntry.mk (PyData.keyHash P (X.S c18)) (Value.str (X.S c18) 253) (Value.int 13 252), DictEntry.mk (PyData.keyHash P (X.S c30)) (Value.str (X.S c30) 255) (Value.int 0 254), DictEntry.mk (PyData.keyHash P (X.S c31)) (Value.str (X.S c31) 257) (Value.int 1 256), DictEntry.mk (PyData.keyHash P (X.S c32)) (Value.str (X.S c32) 259) (Value.int 2 258), DictEntry.mk (PyData.keyHash P (X.S c33)) (Value.str (X.S c33) 261) (Value.int 3 260), DictEntry.mk (PyData.keyHash P (X.S c34)) (Value.str (X.S c34) 263) (Value.int 5 262), DictEntry.mk (PyData.keyHash P (X.S c35)) (Value.str (X.S c35) 265) (Value.int 1 264), DictEntry.mk (PyData.keyHash P (X.S c36)) (Value.str (X.S c36) 267) (Value.int 2 266), DictEntry.mk (PyData.keyHash P (X.S c19)) (Value.str (X.S c19) 276) (Value.ref 69), DictEntry.mk (PyData.keyHash P (X.S c37)) (Value.str (X.S c37) 285) (Value.ref 76), DictEntry.mk (PyData.keyHash P (X.S c38)) (Value.str (X.S c38) 293) (Value.ref 83), DictEntry.mk (PyData.keyHash P (X.S c39)) (Value.str (X.S c39) 301) (Value.ref 90), DictEntry.mk (PyData.keyHash P (X.S c40)) (Value.str (X.S c40) 309) (Value.ref 97), DictEntry.mk (PyData.keyHash P (X.S c41)) (Value.str (X.S c41) 316) (Value.ref 104), DictEntry.mk (PyData.keyHash P (X.S c42)) (Value.str (X.S c42) 323) (Value.ref 111), DictEntry.mk (PyData.keyHash P (X.S c43)) (Value.str (X.S c43) 330) (Value.ref 118), DictEntry.mk (PyData.keyHash P (X.S c44)) (Value.str (X.S c44) 337) (Value.ref 125), DictEntry.mk (PyData.keyHash P (X.S c45)) (Value.str (X.S c45) 345) (Value.ref 132), DictEntry.mk (PyData.keyHash P (X.S c46)) (Value.str (X.S c46) 352) (Value.ref 139), DictEntry.mk (PyData.keyHash P (X.S c47)) (Value.str (X.S c47) 361) (Value.ref 146), DictEntry.mk (PyData.keyHash P (X.S c48)) (Value.str (X.S c48) 371) (Value.ref 153), DictEntry.mk (PyData.keyHash P (X.S c20)) (Value.str (X.S c20) 380) (Value.ref 154), DictEntry.mk (PyData.keyHash P (X.S c82)) (Value.str (X.S c82) 382) (Value.ref 157), DictEntry.mk (PyData.keyHash P (X.S c26)) (Value.str (X.S c26) 384) (Value.ref 158), DictEntry.mk (PyData.keyHash P (X.S c5)) (Value.str (X.S c5) 385) Value.none] 4) #[]
noncomputable def o197 (X : Tx) (P : Params) : Obj := Obj.mk (Value.type X.tType) none (Data.cls (ClassData.mk (X.S c29) [Value.type X.tObject] [Value.ref 156, Value.type X.tObject] 155 (X.S c29) true [] [] false none false)) #[none, none, some (Value.str (X.S c29) 242), some (Value.str (X.S c29) 250), some (Value.builtin X.tObjectNew), some (Value.bool true)]
noncomputable def o198 (X : Tx) (P : Params) : Obj := Obj.mk (Value.type X.tGetsetDescriptor) none (Data.fields #[Value.str (X.S c82) 381, Value.ref 156, Value.builtin X.tFunctionDict, Value.builtin X.tFunctionDictSet]) #[]
noncomputable def o199 (X : Tx) (P : Params) : Obj := Obj.mk (Value.type X.tGetsetDescriptor) none (Data.fields #[Value.str (X.S c26) 383, Value.ref 156, Value.builtin X.tExceptiongroupWeakref, Value.none]) #[]
noncomputable def o200 (X : Tx) (P : Params) : Obj := Obj.mk (Value.type X.tSuper) none (Data.fields #[Value.ref 156, Value.ref 156, Value.ref 156]) #[]
noncomputable def o201 (X : Tx) (P : Params) : Obj := Obj.mk (Value.type X.tBuiltinFunctionOrMethod) none (Data.fields #[Value.builtin X.tObjectInitSubclass, Value.ref 156]) #[]
noncomputable def o277 (X : Tx) (P : Params) : Obj := Obj.mk (Value.type X.tDict) none (Data.dict #[DictEntry.mk (PyData.keyHash P (X.S c3)) (Value.str (X.S c3) 165) (Value.str (X.S c27) 240), DictEntry.mk (PyData.keyHash P (X.S c5)) (Value.str (X.S c5) 166) Value.none, DictEntry.mk (PyData.keyHash P (X.S c6)) (Value.str (X.S c6) 167) Value.none, DictEntry.mk (PyData.keyHash P (X.S c7)) (Value.str (X.S c7) 168) (Value.builtin X.tMainLoaderOpaque), DictEntry.mk (PyData.keyHash P (X.S c8)) (Value.str (X.S c8) 169) Value.none, DictEntry.mk (PyData.keyHash P (X.S c9)) (Value.str (X.S c9) 170) (Value.ref 6), DictEntry.mk (PyData.keyHash P (X.S c10)) (Value.str (X.S c10) 171) (Value.ref 4), DictEntry.mk (PyData.keyHash P (X.S c11)) (Value.str (X.S c11) 173) (Value.str (X.S c1) 172), DictEntry.mk (PyData.keyHash P (X.S c12)) (Value.str (X.S c12) 174) Value.none, DictEntry.mk (PyData.keyHash P (X.S c13)) (Value.str (X.S c13) 193) (Value.ref 21), DictEntry.mk (PyData.keyHash P (X.S c14)) (Value.str (X.S c14) 223) (Value.ref 39), DictEntry.mk (PyData.keyHash P (X.S c28)) (Value.str (X.S c28) 239) (Value.ref 52), DictEntry.mk (PyData.keyHash P (X.S c29)) (Value.str (X.S c29) 387) (Value.ref 156), DictEntry.mk (PyData.keyHash P (X.S c83)) (Value.str (X.S c83) 480) (Value.ref 218)] 14) #[]
noncomputable def o278 (X : Tx) (P : Params) : Obj := Obj.mk Value.none none (Data.fields #[Value.int 1 0, Value.int 0 0, Value.ref 20, Value.int 5 0, Value.int 0 0, Value.ref 27, Value.int 10 0, Value.int 0 0, Value.ref 48, Value.int 13 0, Value.int 0 0, Value.ref 60, Value.int 81 0, Value.int 0 0, Value.ref 166]) #[]
noncomputable def o279 (X : Tx) (P : Params) : Obj := Obj.mk (Value.type X.tTuple) none (Data.seq #[]) #[]
noncomputable def o280 (X : Tx) (P : Params) : Obj := Obj.mk (Value.type X.tBuiltinFunctionOrMethod) none (Data.fields #[Value.builtin X.tTypePrepare, Value.type X.tType]) #[]
noncomputable def o281 (X : Tx) (P : Params) : Obj := Obj.mk (Value.type X.tDict) none (Data.dict #[DictEntry.mk (PyData.keyHash P (X.S c16)) (Value.str (X.S c16) 395) (Value.str (X.S c27) 240), DictEntry.mk (PyData.keyHash P (X.S c17)) (Value.str (X.S c17) 397) (Value.str (X.S c83) 396), DictEntry.mk (PyData.keyHash P (X.S c18)) (Value.str (X.S c18) 399) (Value.int 81 398), DictEntry.mk (PyData.keyHash P (X.S c84)) (Value.str (X.S c84) 401) (Value.int 10 400), DictEntry.mk (PyData.keyHash P (X.S c85)) (Value.str (X.S c85) 403) (Value.int 13 402), DictEntry.mk (PyData.keyHash P (X.S c86)) (Value.str (X.S c86) 405) (Value.int 8 404), DictEntry.mk (PyData.keyHash P (X.S c87)) (Value.str (X.S c87) 407) (Value.int 127 406), DictEntry.mk (PyData.keyHash P (X.S c88)) (Value.str (X.S c88) 409) (Value.int 21 408), DictEntry.mk (PyData.keyHash P (X.S c89)) (Value.str (X.S c89) 411) (Value.int 4 410), DictEntry.mk (PyData.keyHash P (X.S c90)) (Value.str (X.S c90) 416) (Value.bytes #[8, 32, 8] 415), DictEntry.mk (PyData.keyHash P (X.S c19)) (Value.str (X.S c19) 426) (Value.ref 180), DictEntry.mk (PyData.keyHash P (X.S c91)) (Value.str (X.S c91) 434) (Value.ref 187), DictEntry.mk (PyData.keyHash P (X.S c92)) (Value.str (X.S c92) 441) (Value.ref 194), DictEntry.mk (PyData.keyHash P (X.S c93)) (Value.str (X.S c93) 449) (Value.ref 201), DictEntry.mk (PyData.keyHash P (X.S c94)) (Value.str (X.S c94) 457) (Value.ref 208), DictEntry.mk (PyData.keyHash P (X.S c95)) (Value.str (X.S c95) 468) (Value.ref 215), DictEntry.mk (PyData.keyHash P (X.S c20)) (Value.str (X.S c20) 473) (Value.ref 216)] 17) #[]
noncomputable def o282 (X : Tx) (P : Params) : Obj := Obj.mk (Value.type X.tTuple) none (Data.seq #[]) #[]
noncomputable def o283 (X : Tx) (P : Params) : Obj := Obj.mk Value.none none (Data.fields #[Value.int 90 0, Value.int 4 0, Value.ref 179, Value.int 98 0, Value.int 4 0, Value.ref 186, Value.int 105 0, Value.int 4 0, Value.ref 193, Value.int 109 0, Value.int 4 0, Value.ref 200, Value.int 119 0, Value.int 4 0, Value.ref 207, Value.int 126 0, Value.int 4 0, Value.ref 214]) #[]
noncomputable def o284 (X : Tx) (P : Params) : Obj := Obj.mk (Value.type X.tCode) none (Data.fields #[Value.str (X.S c83) 390, Value.str (X.S c83) 391, Value.str (X.S c1) 392, Value.int 81 0, Value.int 0 0, Value.int 0 0, Value.int 0 0, Value.int 0 0, Value.ref 164, Value.bool false, Value.int 181 0, Value.ref 165, Value.none, Value.none, Value.none, Value.none, Value.int 393 0, Value.int 81 0, Value.str (X.S c1) 394]) #[]
noncomputable def o285 (X : Tx) (P : Params) : Obj := Obj.mk (Value.type X.tFrame) none Data.plain #[some (Value.ref 166), some (Value.ref 3), some (Value.ref 163), none, some (Value.str (X.S c27) 240), none, some (Value.ref 0)]
noncomputable def o286 (X : Tx) (P : Params) : Obj := Obj.mk (Value.type X.tList) none (Data.seq #[Value.int 8 412, Value.int 32 413, Value.int 8 414]) #[]
noncomputable def o287 (X : Tx) (P : Params) : Obj := Obj.mk (Value.type X.tListIterator) none (Data.fields #[Value.none, Value.int 3 0]) #[]
noncomputable def o288 (X : Tx) (P : Params) : Obj := Obj.mk (Value.type X.tBytearray) none (Data.bytearray #[8, 32, 8]) #[]
noncomputable def o289 (X : Tx) (P : Params) : Obj := Obj.mk (Value.type X.tTuple) none (Data.seq #[]) #[]
noncomputable def o290 (X : Tx) (P : Params) : Obj := Obj.mk (Value.type X.tStopiteration) none (Data.fields #[Value.ref 171, Value.none, Value.none, Value.none, Value.bool false, Value.none]) #[]
noncomputable def o291 (X : Tx) (P : Params) : Obj := Obj.mk (Value.type X.tTuple) none (Data.seq #[Value.int 128 417]) #[]
noncomputable def o292 (X : Tx) (P : Params) : Obj := Obj.mk (Value.type X.tTuple) none (Data.seq #[]) #[]
noncomputable def o293 (X : Tx) (P : Params) : Obj := Obj.mk Value.none none (Data.fields #[]) #[]
noncomputable def o294 (X : Tx) (P : Params) : Obj := Obj.mk (Value.type X.tTuple) none (Data.seq #[Value.str (X.S c22) 421, Value.str (X.S c96) 422, Value.str (X.S c49) 423]) #[]
noncomputable def o295 (X : Tx) (P : Params) : Obj := Obj.mk (Value.type X.tTuple) none (Data.seq #[]) #[]
noncomputable def o296 (X : Tx) (P : Params) : Obj := Obj.mk Value.none none (Data.func (FuncData.mk (X.S c19) (X.S c97) (parsOf (nth (inner (nth X.prog.main.body 6)) 7)) (.stmts (inner (nth (inner (nth X.prog.main.body 6)) 7))) (scopeOf (nth (inner (nth X.prog.main.body 6)) 7)) 0 [] Value.none Value.none Value.none Value.none none Value.none Value.none 0)) #[]
noncomputable def o297 (X : Tx) (P : Params) : Obj := Obj.mk (Value.type X.tCode) none (Data.fields #[Value.str (X.S c19) 418, Value.str (X.S c97) 419, Value.str (X.S c1) 420, Value.int 90 0, Value.int 3 0, Value.int 0 0, Value.int 0 0, Value.int 3 0, Value.ref 174, Value.bool true, Value.int 181 0, Value.ref 175, Value.none, Value.ref 176, Value.ref 177, Value.ref 178, Value.int 424 0, Value.int 90 0, Value.str (X.S c1) 425]) #[]
noncomputable def o298 (X : Tx) (P : Params) : Obj := Obj.mk (Value.type X.tFunction) none (Data.func (FuncData.mk (X.S c19) (X.S c97) (parsOf (nth (inner (nth X.prog.main.body 6)) 7)) (.stmts (inner (nth (inner (nth X.prog.main.body 6)) 7))) (scopeOf (nth (inner (nth X.prog.main.body 6)) 7)) 3 [] (Value.ref 173) Value.none Value.none (Value.str (X.S c27) 240) none (Value.ref 179) Value.none 0)) #[]
noncomputable def o299 (X : Tx) (P : Params) : Obj := Obj.mk (Value.type X.tTuple) none (Data.seq #[]) #[]
noncomputable def o300 (X : Tx) (P : Params) : Obj := Obj.mk Value.none none (Data.fields #[]) #[]
noncomputable def o301 (X : Tx) (P : Params) : Obj := Obj.mk (Value.type X.tTuple) none (Data.seq #[Value.str (X.S c22) 430, Value.str (X.S c61) 431]) #[]
noncomputable def o302 (X : Tx) (P : Params) : Obj := Obj.mk (Value.type X.tTuple) none (Data.seq #[]) #[]
noncomputable def o303 (X : Tx) (P : Params) : Obj := Obj.mk Value.none none (Data.func (FuncData.mk (X.S c91) (X.S c100) (parsOf (nth (inner (nth X.prog.main.body 6)) 8)) (.stmts (inner (nth (inner (nth X.prog.main.body 6)) 8))) (scopeOf (nth (inner (nth X.prog.main.body 6)) 8)) 0 [] Value.none Value.none Value.none Value.none none Value.none Value.none 0)) #[]
noncomputable def o304 (X : Tx) (P : Params) : Obj := Obj.mk (Value.type X.tCode) none (Data.fields #[Value.str (X.S c91) 427, Value.str (X.S c100) 428, Value.str (X.S c1) 429, Value.int 98 0, Value.int 1 0, Value.int 0 0, Value.int 0 0, Value.int 3 0, Value.ref 181, Value.bool true, Value.int 181 0, Value.ref 182, Value.none, Value.ref 183, Value.ref 184, Value.ref 185, Value.int 432 0, Value.int 98 0, Value.str (X.S c1) 433]) #[]
noncomputable def o305 (X : Tx) (P : Params) : Obj := Obj.mk (Value.type X.tFunction) none (Data.func (FuncData.mk (X.S c91) (X.S c100) (parsOf (nth (inner (nth X.prog.main.body 6)) 8)) (.stmts (inner (nth (inner (nth X.prog.main.body 6)) 8))) (scopeOf (nth (inner (nth X.prog.main.body 6)) 8)) 3 [] Value.none Value.none Value.none (Value.str (X.S c27) 240) none (Value.ref 186) Value.none 0)) #[]
noncomputable def o306 (X : Tx) (P : Params) : Obj := Obj.mk (Value.type X.tTuple) none (Data.seq #[]) #[]
noncomputable def o307 (X : Tx) (P : Params) : Obj := Obj.mk Value.none none (Data.fields #[]) #[]
noncomputable def o308 (X : Tx) (P : Params) : Obj := Obj.mk (Value.type X.tTuple) none (Data.seq #[Value.str (X.S c22) 438]) #[]
noncomputable def o309 (X : Tx) (P : Params) : Obj := Obj.mk (Value.type X.tTuple) none (Data.seq #[]) #[]
noncomputable def o310 (X : Tx) (P : Params) : Obj := Obj.mk Value.none none (Data.func (FuncData.mk (X.S c92) (X.S c101) (parsOf (nth (inner (nth X.prog.main.body 6)) 9)) (.stmts (inner (nth (inner (nth X.prog.main.body 6)) 9))) (scopeOf (nth (inner (nth X.prog.main.body 6)) 9)) 0 [] Value.none Value.none Value.none Value.none none Value.none Value.none 0)) #[]
noncomputable def o311 (X : Tx) (P : Params) : Obj := Obj.mk (Value.type X.tCode) none (Data.fields #[Value.str (X.S c92) 435, Value.str (X.S c101) 436, Value.str (X.S c1) 437, Value.int 105 0, Value.int 1 0, Value.int 0 0, Value.int 0 0, Value.int 3 0, Value.ref 188, Value.bool true, Value.int 181 0, Value.ref 189, Value.none, Value.ref 190, Value.ref 191, Value.ref 192, Value.int 439 0, Value.int 105 0, Value.str (X.S c1) 440]) #[]
noncomputable def o312 (X : Tx) (P : Params) : Obj := Obj.mk (Value.type X.tFunction) none (Data.func (FuncData.mk (X.S c92) (X.S c101) (parsOf (nth (inner (nth X.prog.main.body 6)) 9)) (.stmts (inner (nth (inner (nth X.prog.main.body 6)) 9))) (scopeOf (nth (inner (nth X.prog.main.body 6)) 9)) 3 [] Value.none Value.none Value.none (Value.str (X.S c27) 240) none (Value.ref 193) Value.none 0)) #[]
noncomputable def o313 (X : Tx) (P : Params) : Obj := Obj.mk (Value.type X.tTuple) none (Data.seq #[]) #[]
noncomputable def o314 (X : Tx) (P : Params) : Obj := Obj.mk Value.none none (Data.fields #[]) #[]
noncomputable def o315 (X : Tx) (P : Params) : Obj := Obj.mk (Value.type X.tTuple) none (Data.seq #[Value.str (X.S c22) 445, Value.str (X.S c61) 446]) #[]
noncomputable def o316 (X : Tx) (P : Params) : Obj := Obj.mk (Value.type X.tTuple) none (Data.seq #[]) #[]
noncomputable def o317 (X : Tx) (P : Params) : Obj := Obj.mk Value.none none (Data.func (FuncData.mk (X.S c93) (X.S c102) (parsOf (nth (inner (nth X.prog.main.body 6)) 10)) (.stmts (inner (nth (inner (nth X.prog.main.body 6)) 10))) (scopeOf (nth (inner (nth X.prog.main.body 6)) 10)) 0 [] Value.none Value.none Value.none Value.none none Value.none Value.none 0)) #[]
noncomputable def o318 (X : Tx) (P : Params) : Obj := Obj.mk (Value.type X.tCode) none (Data.fields #[Value.str (X.S c93) 442, Value.str (X.S c102) 443, Value.str (X.S c1) 444, Value.int 109 0, Value.int 2 0, Value.int 0 0, Value.int 0 0, Value.int 3 0, Value.ref 195, Value.bool true, Value.int 181 0, Value.ref 196, Value.none, Value.ref 197, Value.ref 198, Value.ref 199, Value.int 447 0, Value.int 109 0, Value.str (X.S c1) 448]) #[]
noncomputable def o319 (X : Tx) (P : Params) : Obj := Obj.mk (Value.type X.tFunction) none (Data.func (FuncData.mk (X.S c93) (X.S c102) (parsOf (nth (inner (nth X.prog.main.body 6)) 10)) (.stmts (inner (nth (inner (nth X.prog.main.body 6)) 10))) (scopeOf (nth (inner (nth X.prog.main.body 6)) 10)) 3 [] Value.none Value.none Value.none (Value.str (X.S c27) 240) none (Value.ref 200) Value.none 0)) #[]
noncomputable def o320 (X : Tx) (P : Params) : Obj := Obj.mk (Value.type X.tTuple) none (Data.seq #[]) #[]
noncomputable def o321 (X : Tx) (P : Params) : Obj := Obj.mk Value.none none (Data.fields #[]) #[]
noncomputable def o322 (X : Tx) (P : Params) : Obj := Obj.mk (Value.type X.tTuple) none (Data.seq #[Value.str (X.S c22) 453, Value.str (X.S c61) 454]) #[]
noncomputable def o323 (X : Tx) (P : Params) : Obj := Obj.mk (Value.type X.tTuple) none (Data.seq #[]) #[]
noncomputable def o324 (X : Tx) (P : Params) : Obj := Obj.mk Value.none none (Data.func (FuncData.mk (X.S c94) (X.S c103) (parsOf (nth (inner (nth X.prog.main.body 6)) 11)) (.stmts (inner (nth (inner (nth X.prog.main.body 6)) 11))) (scopeOf (nth (inner (nth X.prog.main.body 6)) 11)) 0 [] Value.none Value.none Value.none Value.none none Value.none Value.none 0)) #[]
noncomputable def o325 (X : Tx) (P : Params) : Obj := Obj.mk (Value.type X.tCode) none (Data.fields #[Value.str (X.S c94) 450, Value.str (X.S c103) 451, Value.str (X.S c1) 452, Value.int 119 0, Value.int 2 0, Value.int 0 0, Value.int 0 0, Value.int 3 0, Value.ref 202, Value.bool true, Value.int 181 0, Value.ref 203, Value.none, Value.ref 204, Value.ref 205, Value.ref 206, Value.int 455 0, Value.int 119 0, Value.str (X.S c1) 456]) #[]
noncomputable def o326 (X : Tx) (P : Params) : Obj := Obj.mk (Value.type X.tFunction) none (Data.func (FuncData.mk (X.S c94) (X.S c103) (parsOf (nth (inner (nth X.prog.main.body 6)) 11)) (.stmts (inner (nth (inner (nth X.prog.main.body 6)) 11))) (scopeOf (nth (inner (nth X.prog.main.body 6)) 11)) 3 [] Value.none Value.none Value.none (Value.str (X.S c27) 240) none (Value.ref 207) Value.none 0)) #[]
noncomputable def o327 (X : Tx) (P : Params) : Obj := Obj.mk (Value.type X.tTuple) none (Data.seq #[]) #[]
noncomputable def o328 (X : Tx) (P : Params) : Obj := Obj.mk Value.none none (Data.fields #[]) #[]
noncomputable def o329 (X : Tx) (P : Params) : Obj := Obj.mk (Value.type X.tTuple) none (Data.seq #[Value.str (X.S c22) 461, Value.str (X.S c104) 462, Value.str (X.S c105) 463, Value.str (X.S c61) 464, Value.str (X.S c65) 465]) #[]
noncomputable def o330 (X : Tx) (P : Params) : Obj := Obj.mk (Value.type X.tTuple) none (Data.seq #[]) #[]
noncomputable def o331 (X : Tx) (P : Params) : Obj := Obj.mk Value.none none (Data.func (FuncData.mk (X.S c95) (X.S c106) (parsOf (nth (inner (nth X.prog.main.body 6)) 12)) (.stmts (inner (nth (inner (nth X.prog.main.body 6)) 12))) (scopeOf (nth (inner (nth X.prog.main.body 6)) 12)) 0 [] Value.none Value.none Value.none Value.none none Value.none Value.none 0)) #[]
noncomputable def o332 (X : Tx) (P : Params) : Obj := Obj.mk (Value.type X.tCode) none (Data.fields #[Value.str (X.S c95) 458, Value.str (X.S c106) 459, Value.str (X.S c1) 460, Value.int 126 0, Value.int 2 0, Value.int 0 0, Value.int 0 0, Value.int 3 0, Value.ref 209, Value.bool true, Value.int 181 0, Value.ref 210, Value.none, Value.ref 211, Value.ref 212, Value.ref 213, Value.int 466 0, Value.int 126 0, Value.str (X.S c1) 467]) #[]
noncomputable def o333 (X : Tx) (P : Params) : Obj := Obj.mk (Value.type X.tFunction) none (Data.func (FuncData.mk (X.S c95) (X.S c106) (parsOf (nth (inner (nth X.prog.main.body 6)) 12)) (.stmts (inner (nth (inner (nth X.prog.main.body 6)) 12))) (scopeOf (nth (inner (nth X.prog.main.body 6)) 12)) 3 [] Value.none Value.none Value.none (Value.str (X.S c27) 240) none (Value.ref 214) Value.none 0)) #[]
noncomputable def o334 (X : Tx) (P : Params) : Obj := Obj.mk (Value.type X.tTuple) none (Data.seq #[Value.str (X.S c56) 469, Value.str (X.S c99) 470, Value.str (X.S c49) 471, Value.str (X.S c96) 472]) #[]
noncomputable def o335 (X : Tx) (P : Params) : Obj := Obj.mk (Value.type X.tDict) none (Data.dict #[DictEntry.mk (PyData.keyHash P (X.S c16)) (Value.str (X.S c16) 395) (Value.str (X.S c27) 240), DictEntry.mk (PyData.keyHash P (X.S c18)) (Value.str (X.S c18) 399) (Value.int 81 398), DictEntry.mk (PyData.keyHash P (X.S c84)) (Value.str (X.S c84) 401) (Value.int 10 400), DictEntry.mk (PyData.keyHash P (X.S c85)) (Value.str (X.S c85) 403) (Value.int 13 402), DictEntry.mk (PyData.keyHash P (X.S c86)) (Value.str (X.S c86) 405) (Value.int 8 404), DictEntry.mk (PyData.keyHash P (X.S c87)) (Value.str (X.S c87) 407) (Value.int 127 406), DictEntry.mk (PyData.keyHash P (X.S c88)) (Value.str (X.S c88) 409) (Value.int 21 408), DictEntry.mk (PyData.keyHash P (X.S c89)) (Value.str (X.S c89) 411) (Value.int 4 410), DictEntry.mk (PyData.keyHash P (X.S c90)) (Value.str (X.S c90) 416) (Value.bytes #[8, 32, 8] 415), DictEntry.mk (PyData.keyHash P (X.S c19)) (Value.str (X.S c19) 426) (Value.ref 180), DictEntry.mk (PyData.keyHash P (X.S c91)) (Value.str (X.S c91) 434) (Value.ref 187), DictEntry.mk (PyData.keyHash P (X.S c92)) (Value.str (X.S c92) 441) (Value.ref 194), DictEntry.mk (PyData.keyHash P (X.S c93)) (Value.str (X.S c93) 449) (Value.ref 201), DictEntry.mk (PyData.keyHash P (X.S c94)) (Value.str (X.S c94) 457) (Value.ref 208), DictEntry.mk (PyData.keyHash P (X.S c95)) (Value.str (X.S c95) 468) (Value.ref 215), DictEntry.mk (PyData.keyHash P (X.S c20)) (Value.str (X.S c20) 473) (Value.ref 216), DictEntry.mk (PyData.keyHash P (X.S c82)) (Value.str (X.S c82) 475) (Value.ref 219), DictEntry.mk (PyData.keyHash P (X.S c26)) (Value.str (X.S c26) 477) (Value.ref 220), DictEntry.mk (PyData.keyHash P (X.S c5)) (Value.str (X.S c5) 478) Value.none] 4) #[]
noncomputable def o336 (X : Tx) (P : Params) : Obj := Obj.mk (Value.type X.tType) none (Data.cls (ClassData.mk (X.S c83) [Value.type X.tObject] [Value.ref 218, Value.type X.tObject] 217 (X.S c83) true [] [] false none false)) #[none, none, some (Value.str (X.S c83) 388), some (Value.str (X.S c83) 396), some (Value.builtin X.tObjectNew), some (Value.bool true)]
noncomputable def o337 (X : Tx) (P : Params) : Obj := Obj.mk (Value.type X.tGetsetDescriptor) none (Data.fields #[Value.str (X.S c82) 474, Value.ref 218, Value.builtin X.tFunctionDict, Value.builtin X.tFunctionDictSet]) #[]
noncomputable def o338 (X : Tx) (P : Params) : Obj := Obj.mk (Value.type X.tGetsetDescriptor) none (Data.fields #[Value.str (X.S c26) 476, Value.ref 218, Value.builtin X.tExceptiongroupWeakref, Value.none]) #[]
noncomputable def o339 (X : Tx) (P : Params) : Obj := Obj.mk (Value.type X.tSuper) none (Data.fields #[Value.ref 218, Value.ref 218, Value.ref 218]) #[]
noncomputable def o340 (X : Tx) (P : Params) : Obj := Obj.mk (Value.type X.tBuiltinFunctionOrMethod) none (Data.fields #[Value.builtin X.tObjectInitSubclass, Value.ref 218]) #[]
noncomputable def o343 (X : Tx) (P : Params) : Obj := Obj.mk (Value.type X.tDict) none (Data.dict #[DictEntry.mk (PyData.keyHash P (X.S c3)) (Value.str (X.S c3) 165) (Value.str (X.S c108) 481), DictEntry.mk (PyData.keyHash P (X.S c5)) (Value.str (X.S c5) 166) Value.none, DictEntry.mk (PyData.keyHash P (X.S c6)) (Value.str (X.S c6) 167) Value.none, DictEntry.mk (PyData.keyHash P (X.S c7)) (Value.str (X.S c7) 168) (Value.builtin X.tMainLoaderOpaque), DictEntry.mk (PyData.keyHash P (X.S c8)) (Value.str (X.S c8) 169) Value.none, DictEntry.mk (PyData.keyHash P (X.S c9)) (Value.str (X.S c9) 170) (Value.ref 6), DictEntry.mk (PyData.keyHash P (X.S c10)) (Value.str (X.S c10) 171) (Value.ref 4), DictEntry.mk (PyData.keyHash P (X.S c11)) (Value.str (X.S c11) 173) (Value.str (X.S c1) 172), DictEntry.mk (PyData.keyHash P (X.S c12)) (Value.str (X.S c12) 174) Value.none, DictEntry.mk (PyData.keyHash P (X.S c13)) (Value.str (X.S c13) 193) (Value.ref 21), DictEntry.mk (PyData.keyHash P (X.S c14)) (Value.str (X.S c14) 223) (Value.ref 39), DictEntry.mk (PyData.keyHash P (X.S c28)) (Value.str (X.S c28) 239) (Value.ref 52), DictEntry.mk (PyData.keyHash P (X.S c29)) (Value.str (X.S c29) 387) (Value.ref 156), DictEntry.mk (PyData.keyHash P (X.S c83)) (Value.str (X.S c83) 480) (Value.ref 218), DictEntry.mk (PyData.keyHash P (X.S c109)) (Value.str (X.S c109) 491) (Value.ref 229), DictEntry.mk (PyData.keyHash P (X.S c110)) (Value.str (X.S c110) 499) (Value.ref 236), DictEntry.mk (PyData.keyHash P (X.S c111)) (Value.str (X.S c111) 510) (Value.ref 243), DictEntry.mk (PyData.keyHash P (X.S c112)) (Value.str (X.S c112) 522) (Value.ref 250), DictEntry.mk (PyData.keyHash P (X.S c113)) (Value.str (X.S c113) 534) (Value.ref 257), DictEntry.mk (PyData.keyHash P (X.S c114)) (Value.str (X.S c114) 540) (Value.ref 262), DictEntry.mk (PyData.keyHash P (X.S c115)) (Value.str (X.S c115) 546) (Value.ref 267)] 21) #[]
noncomputable def o344 (X : Tx) (P : Params) : Obj := Obj.mk Value.none none (Data.fields #[Value.int 1 0, Value.int 0 0, Value.ref 20, Value.int 5 0, Value.int 0 0, Value.ref 27, Value.int 10 0, Value.int 0 0, Value.ref 48, Value.int 13 0, Value.int 0 0, Value.ref 60, Value.int 81 0, Value.int 0 0, Value.ref 166, Value.int 145 0, Value.int 0 0, Value.ref 228, Value.int 152 0, Value.int 0 0, Value.ref 235, Value.int 154 0, Value.int 0 0, Value.ref 242, Value.int 166 0, Value.int 0 0, Value.ref 249, Value.int 181 0, Value.int 0 0, Value.ref 256, Value.int 187 0, Value.int 0 0, Value.ref 261, Value.int 202 0, Value.int 0 0, Value.ref 266]) #[]
noncomputable def o345 (X : Tx) (P : Params) : Obj := Obj.mk (Value.type X.tTuple) none (Data.seq #[]) #[]
noncomputable def o346 (X : Tx) (P : Params) : Obj := Obj.mk Value.none none (Data.fields #[]) #[]
noncomputable def o347 (X : Tx) (P : Params) : Obj := Obj.mk (Value.type X.tTuple) none (Data.seq #[Value.str (X.S c116) 486, Value.str (X.S c105) 487, Value.str (X.S c117) 488]) #[]
noncomputable def o348 (X : Tx) (P : Params) : Obj := Obj.mk (Value.type X.tTuple) none (Data.seq #[]) #[]
noncomputable def o349 (X : Tx) (P : Params) : Obj := Obj.mk Value.none none (Data.func (FuncData.mk (X.S c109) (X.S c109) (parsOf (nth X.prog.main.body 8)) (.stmts (inner (nth X.prog.main.body 8))) (scopeOf (nth X.prog.main.body 8)) 0 [] Value.none Value.none Value.none Value.none none Value.none Value.none 0)) #[]
noncomputable def o350 (X : Tx) (P : Params) : Obj := Obj.mk (Value.type X.tCode) none (Data.fields #[Value.str (X.S c109) 483, Value.str (X.S c109) 484, Value.str (X.S c1) 485, Value.int 145 0, Value.int 2 0, Value.int 0 0, Value.int 0 0, Value.int 3 0, Value.ref 223, Value.bool true, Value.int 181 0, Value.ref 224, Value.none, Value.ref 225, Value.ref 226, Value.ref 227, Value.int 489 0, Value.int 145 0, Value.str (X.S c1) 490]) #[]
noncomputable def o351 (X : Tx) (P : Params) : Obj := Obj.mk (Value.type X.tFunction) none (Data.func (FuncData.mk (X.S c109) (X.S c109) (parsOf (nth X.prog.main.body 8)) (.stmts (inner (nth X.prog.main.body 8))) (scopeOf (nth X.prog.main.body 8)) 3 [] Value.none Value.none Value.none (Value.str (X.S c108) 481) none (Value.ref 228) Value.none 0)) #[]
noncomputable def o352 (X : Tx) (P : Params) : Obj := Obj.mk (Value.type X.tTuple) none (Data.seq #[]) #[]
noncomputable def o353 (X : Tx) (P : Params) : Obj := Obj.mk Value.none none (Data.fields #[]) #[]
noncomputable def o354 (X : Tx) (P : Params) : Obj := Obj.mk (Value.type X.tTuple) none (Data.seq #[Value.str (X.S c116) 495, Value.str (X.S c105) 496]) #[]
noncomputable def o355 (X : Tx) (P : Params) : Obj := Obj.mk (Value.type X.tTuple) none (Data.seq #[]) #[]
noncomputable def o356 (X : Tx) (P : Params) : Obj := Obj.mk Value.none none (Data.func (FuncData.mk (X.S c110) (X.S c110) (parsOf (nth X.prog.main.body 9)) (.stmts (inner (nth X.prog.main.body 9))) (scopeOf (nth X.prog.main.body 9)) 0 [] Value.none Value.none Value.none Value.none none Value.none Value.none 0)) #[]
noncomputable def o357 (X : Tx) (P : Params) : Obj := Obj.mk (Value.type X.tCode) none (Data.fields #[Value.str (X.S c110) 492, Value.str (X.S c110) 493, Value.str (X.S c1) 494, Value.int 152 0, Value.int 2 0, Value.int 0 0, Value.int 0 0, Value.int 3 0, Value.ref 230, Value.bool true, Value.int 181 0, Value.ref 231, Value.none, Value.ref 232, Value.ref 233, Value.ref 234, Value.int 497 0, Value.int 152 0, Value.str (X.S c1) 498]) #[]
noncomputable def o358 (X : Tx) (P : Params) : Obj := Obj.mk (Value.type X.tFunction) none (Data.func (FuncData.mk (X.S c110) (X.S c110) (parsOf (nth X.prog.main.body 9)) (.stmts (inner (nth X.prog.main.body 9))) (scopeOf (nth X.prog.main.body 9)) 3 [] Value.none Value.none Value.none (Value.str (X.S c108) 481) none (Value.ref 235) Value.none 0)) #[]
noncomputable def o359 (X : Tx) (P : Params) : Obj := Obj.mk (Value.type X.tTuple) none (Data.seq #[]) #[]
noncomputable def o360 (X : Tx) (P : Params) : Obj := Obj.mk Value.none none (Data.fields #[]) #[]
noncomputable def o361 (X : Tx) (P : Params) : Obj := Obj.mk (Value.type X.tTuple) none (Data.seq #[Value.str (X.S c116) 503, Value.str (X.S c56) 504, Value.str (X.S c119) 505, Value.str (X.S c61) 506, Value.str (X.S c120) 507]) #[]
noncomputable def o362 (X : Tx) (P : Params) : Obj := Obj.mk (Value.type X.tTuple) none (Data.seq #[]) #[]
noncomputable def o363 (X : Tx) (P : Params) : Obj := Obj.mk Value.none none (Data.func (FuncData.mk (X.S c111) (X.S c111) (parsOf (nth X.prog.main.body 10)) (.stmts (inner (nth X.prog.main.body 10))) (scopeOf (nth X.prog.main.body 10)) 0 [] Value.none Value.none Value.none Value.none none Value.none Value.none 0)) #[]
noncomputable def o364 (X : Tx) (P : Params) : Obj := Obj.mk (Value.type X.tCode) none (Data.fields #[Value.str (X.S c111) 500, Value.str (X.S c111) 501, Value.str (X.S c1) 502, Value.int 154 0, Value.int 2 0, Value.int 0 0, Value.int 0 0, Value.int 3 0, Value.ref 237, Value.bool true, Value.int 181 0, Value.ref 238, Value.none, Value.ref 239, Value.ref 240, Value.ref 241, Value.int 508 0, Value.int 154 0, Value.str (X.S c1) 509]) #[]
noncomputable def o365 (X : Tx) (P : Params) : Obj := Obj.mk (Value.type X.tFunction) none (Data.func (FuncData.mk (X.S c111) (X.S c111) (parsOf (nth X.prog.main.body 10)) (.stmts (inner (nth X.prog.main.body 10))) (scopeOf (nth X.prog.main.body 10)) 3 [] Value.none Value.none Value.none (Value.str (X.S c108) 481) none (Value.ref 242) Value.none 0)) #[]
noncomputable def o366 (X : Tx) (P : Params) : Obj := Obj.mk (Value.type X.tTuple) none (Data.seq #[]) #[]
noncomputable def o367 (X : Tx) (P : Params) : Obj := Obj.mk Value.none none (Data.fields #[]) #[]
noncomputable def o368 (X : Tx) (P : Params) : Obj := Obj.mk (Value.type X.tTuple) none (Data.seq #[Value.str (X.S c60) 514, Value.str (X.S c121) 515, Value.str (X.S c122) 516, Value.str (X.S c123) 517, Value.str (X.S c61) 518, Value.str (X.S c119) 519]) #[]
noncomputable def o369 (X : Tx) (P : Params) : Obj := Obj.mk (Value.type X.tTuple) none (Data.seq #[]) #[]
noncomputable def o370 (X : Tx) (P : Params) : Obj := Obj.mk Value.none none (Data.func (FuncData.mk (X.S c112) (X.S c112) (parsOf (nth X.prog.main.body 11)) (.stmts (inner (nth X.prog.main.body 11))) (scopeOf (nth X.prog.main.body 11)) 0 [] Value.none Value.none Value.none Value.none none Value.none Value.none 0)) #[]
noncomputable def o371 (X : Tx) (P : Params) : Obj := Obj.mk (Value.type X.tCode) none (Data.fields #[Value.str (X.S c112) 511, Value.str (X.S c112) 512, Value.str (X.S c1) 513, Value.int 166 0, Value.int 1 0, Value.int 0 0, Value.int 0 0, Value.int 3 0, Value.ref 244, Value.bool true, Value.int 181 0, Value.ref 245, Value.none, Value.ref 246, Value.ref 247, Value.ref 248, Value.int 520 0, Value.int 166 0, Value.str (X.S c1) 521]) #[]
noncomputable def o372 (X : Tx) (P : Params) : Obj := Obj.mk (Value.type X.tFunction) none (Data.func (FuncData.mk (X.S c112) (X.S c112) (parsOf (nth X.prog.main.body 11)) (.stmts (inner (nth X.prog.main.body 11))) (scopeOf (nth X.prog.main.body 11)) 3 [] Value.none Value.none Value.none (Value.str (X.S c108) 481) none (Value.ref 249) Value.none 0)) #[]
noncomputable def o373 (X : Tx) (P : Params) : Obj := Obj.mk (Value.type X.tTuple) none (Data.seq #[]) #[]
noncomputable def o374 (X : Tx) (P : Params) : Obj := Obj.mk Value.none none (Data.fields #[]) #[]
noncomputable def o375 (X : Tx) (P : Params) : Obj := Obj.mk (Value.type X.tTuple) none (Data.seq #[Value.str (X.S c56) 526, Value.str (X.S c125) 527, Value.str (X.S c126) 528, Value.str (X.S c119) 529, Value.str (X.S c127) 530, Value.str (X.S c104) 531]) #[]
noncomputable def o376 (X : Tx) (P : Params) : Obj := Obj.mk (Value.type X.tTuple) none (Data.seq #[]) #[]
noncomputable def o377 (X : Tx) (P : Params) : Obj := Obj.mk Value.none none (Data.func (FuncData.mk (X.S c113) (X.S c113) (parsOf (nth X.prog.main.body 12)) (.stmts (inner (nth X.prog.main.body 12))) (scopeOf (nth X.prog.main.body 12)) 0 [] Value.none Value.none Value.none Value.none none Value.none Value.none 0)) #[]
noncomputable def o378 (X : Tx) (P : Params) : Obj := Obj.mk (Value.type X.tCode) none (Data.fields #[Value.str (X.S c113) 523, Value.str (X.S c113) 524, Value.str (X.S c1) 525, Value.int 181 0, Value.int 3 0, Value.int 0 0, Value.int 0 0, Value.int 3 0, Value.ref 251, Value.bool true, Value.int 181 0, Value.ref 252, Value.none, Value.ref 253, Value.ref 254, Value.ref 255, Value.int 532 0, Value.int 181 0, Value.str (X.S c1) 533]) #[]
noncomputable def o379 (X : Tx) (P : Params) : Obj := Obj.mk (Value.type X.tFunction) none (Data.func (FuncData.mk (X.S c113) (X.S c113) (parsOf (nth X.prog.main.body 12)) (.stmts (inner (nth X.prog.main.body 12))) (scopeOf (nth X.prog.main.body 12)) 3 [] Value.none Value.none Value.none (Value.str (X.S c108) 481) none (Value.ref 256) Value.none 0)) #[]
noncomputable def o380 (X : Tx) (P : Params) : Obj := Obj.mk (Value.type X.tTuple) none (Data.seq #[]) #[]
noncomputable def o381 (X : Tx) (P : Params) : Obj := Obj.mk Value.none none (Data.fields #[]) #[]
noncomputable def o382 (X : Tx) (P : Params) : Obj := Obj.mk Value.none none (Data.func (FuncData.mk (X.S c114) (X.S c114) (parsOf (nth X.prog.main.body 13)) (.stmts (inner (nth X.prog.main.body 13))) (scopeOf (nth X.prog.main.body 13)) 0 [] Value.none Value.none Value.none Value.none none Value.none Value.none 0)) #[]
noncomputable def o383 (X : Tx) (P : Params) : Obj := Obj.mk (Value.type X.tCode) none (Data.fields #[Value.str (X.S c114) 535, Value.str (X.S c114) 536, Value.str (X.S c1) 537, Value.int 187 0, Value.int 6 0, Value.int 0 0, Value.int 0 0, Value.int 3 0, Value.ref 258, Value.bool true, Value.int 181 0, Value.ref 259, Value.none, Value.none, Value.none, Value.ref 260, Value.int 538 0, Value.int 187 0, Value.str (X.S c1) 539]) #[]
noncomputable def o384 (X : Tx) (P : Params) : Obj := Obj.mk (Value.type X.tFunction) none (Data.func (FuncData.mk (X.S c114) (X.S c114) (parsOf (nth X.prog.main.body 13)) (.stmts (inner (nth X.prog.main.body 13))) (scopeOf (nth X.prog.main.body 13)) 3 [] Value.none Value.none Value.none (Value.str (X.S c108) 481) none (Value.ref 261) Value.none 0)) #[]
noncomputable def o385 (X : Tx) (P : Params) : Obj := Obj.mk (Value.type X.tTuple) none (Data.seq #[]) #[]
noncomputable def o386 (X : Tx) (P : Params) : Obj := Obj.mk Value.none none (Data.fields #[]) #[]
noncomputable def o387 (X : Tx) (P : Params) : Obj := Obj.mk Value.none none (Data.func (FuncData.mk (X.S c115) (X.S c115) (parsOf (nth X.prog.main.body 14)) (.stmts (inner (nth X.prog.main.body 14))) (scopeOf (nth X.prog.main.body 14)) 0 [] Value.none Value.none Value.none Value.none none Value.none Value.none 0)) #[]
noncomputable def o388 (X : Tx) (P : Params) : Obj := Obj.mk (Value.type X.tCode) none (Data.fields #[Value.str (X.S c115) 541, Value.str (X.S c115) 542, Value.str (X.S c1) 543, Value.int 202 0, Value.int 1 0, Value.int 0 0, Value.int 0 0, Value.int 3 0, Value.ref 263, Value.bool true, Value.int 181 0, Value.ref 264, Value.none, Value.none, Value.none, Value.ref 265, Value.int 544 0, Value.int 202 0, Value.str (X.S c1) 545]) #[]
noncomputable def o389 (X : Tx) (P : Params) : Obj := Obj.mk (Value.type X.tFunction) none (Data.func (FuncData.mk (X.S c115) (X.S c115) (parsOf (nth X.prog.main.body 14)) (.stmts (inner (nth X.prog.main.body 14))) (scopeOf (nth X.prog.main.body 14)) 3 [] Value.none Value.none Value.none (Value.str (X.S c108) 481) none (Value.ref 266) Value.none 0)) #[]
noncomputable def heap46 (X : Tx) (P : Params) : Heap := Heap.mk (Array.mk [boot_o_0 P, boot_o_1 P, boot_o_2 P, boot_o_3 P, boot_o_4 P, boot_o_5 P, boot_o_6 P, boot_o_7 P, boot_o_8 P, boot_o_9 P, boot_o_10 P, o43 X P, o44 X P, o45 X P, o46 X P]) (Life.mk [] [] [] 0 [] [] false #[] [] 0 false false false 0 [2000, 10, 10] false 0 true [] [] 0 false)
noncomputable def tree47 (X : Tx) (P : Params) : BT := BT.node (boot_o_0 P) (BT.node (boot_o_1 P) (BT.node (boot_o_3 P) (BT.node (boot_o_7 P) BT.nil BT.nil) (BT.node (o43 X P) BT.nil BT.nil)) (BT.node (boot_o_5 P) (BT.node (boot_o_9 P) BT.nil BT.nil) (BT.node (o45 X P) BT.nil BT.nil))) (BT.node (boot_o_2 P) (BT.node (boot_o_4 P) (BT.node (boot_o_8 P) BT.nil BT.nil) (BT.node (o44 X P) BT.nil BT.nil)) (BT.node (boot_o_6 P) (BT.node (boot_o_10 P) BT.nil BT.nil) (BT.node (o46 X P) BT.nil BT.nil)))
noncomputable def tree78 (X : Tx) (P : Params) : BT := BT.node (boot_o_0 P) (BT.node (boot_o_1 P) (BT.node (o49 X P) (BT.node (boot_o_7 P) (BT.node (o51 X P) (BT.node (o67 X P) BT.nil BT.nil) BT.nil) (BT.node (o59 X P) (BT.node (o75 X P) BT.nil BT.nil) BT.nil)) (BT.node (o43 X P) (BT.node (o55 X P) (BT.node (o71 X P) BT.nil BT.nil) BT.nil) (BT.node (o63 X P) BT.nil BT.nil))) (BT.node (boot_o_5 P) (BT.node (boot_o_9 P) (BT.node (o53 X P) (BT.node (o69 X P) BT.nil BT.nil) BT.nil) (BT.node (o61 X P) (BT.node (o77 X P) BT.nil BT.nil) BT.nil)) (BT.node (o45 X P) (BT.node (o57 X P) (BT.node (o73 X P) BT.nil BT.nil) BT.nil) (BT.node (o65 X P) BT.nil BT.nil)))) (BT.node (boot_o_2 P) (BT.node (boot_o_4 P) (BT.node (boot_o_8 P) (BT.node (o52 X P) (BT.node (o68 X P) BT.nil BT.nil) BT.nil) (BT.node (o60 X P) (BT.node (o76 X P) BT.nil BT.nil) BT.nil)) (BT.node (o50 X P) (BT.node (o56 X P) (BT.node (o72 X P) BT.nil BT.nil) BT.nil) (BT.node (o64 X P) BT.nil BT.nil))) (BT.node (boot_o_6 P) (BT.node (boot_o_10 P) (BT.node (o54 X P) (BT.node (o70 X P) BT.nil BT.nil) BT.nil) (BT.node (o62 X P) (BT.node (o78 X P) BT.nil BT.nil) BT.nil)) (BT.node (o46 X P) (BT.node (o58 X P) (BT.node (o74 X P) BT.nil BT.nil) BT.nil) (BT.node (o66 X P) BT.nil BT.nil))))
noncomputable def tree93 (X : Tx) (P : Params) : BT := BT.node (boot_o_0 P) (BT.node (boot_o_1 P) (BT.node (o79 X P) (BT.node (boot_o_7 P) (BT.node (o51 X P) (BT.node (o67 X P) BT.nil BT.nil) (BT.node (o86 X P) BT.nil BT.nil)) (BT.node (o59 X P) (BT.node (o81 X P) BT.nil BT.nil) BT.nil)) (BT.node (o43 X P) (BT.node (o55 X P) (BT.node (o71 X P) BT.nil BT.nil) (BT.node (o90 X P) BT.nil BT.nil)) (BT.node (o63 X P) (BT.node (o82 X P) BT.nil BT.nil) BT.nil))) (BT.node (boot_o_5 P) (BT.node (boot_o_9 P) (BT.node (o53 X P) (BT.node (o69 X P) BT.nil BT.nil) (BT.node (o88 X P) BT.nil BT.nil)) (BT.node (o61 X P) (BT.node (o77 X P) BT.nil BT.nil) BT.nil)) (BT.node (o45 X P) (BT.node (o57 X P) (BT.node (o73 X P) BT.nil BT.nil) (BT.node (o92 X P) BT.nil BT.nil)) (BT.node (o65 X P) (BT.node (o84 X P) BT.nil BT.nil) BT.nil)))) (BT.node (boot_o_2 P) (BT.node (boot_o_4 P) (BT.node (boot_o_8 P) (BT.node (o52 X P) (BT.node (o68 X P) BT.nil BT.nil) (BT.node (o87 X P) BT.nil BT.nil)) (BT.node (o60 X P) (BT.node (o76 X P) BT.nil BT.nil) BT.nil)) (BT.node (o80 X P) (BT.node (o56 X P) (BT.node (o72 X P) BT.nil BT.nil) (BT.node (o91 X P) BT.nil BT.nil)) (BT.node (o64 X P) (BT.node (o83 X P) BT.nil BT.nil) BT.nil))) (BT.node (boot_o_6 P) (BT.node (boot_o_10 P) (BT.node (o54 X P) (BT.node (o70 X P) BT.nil BT.nil) (BT.node (o89 X P) BT.nil BT.nil)) (BT.node (o62 X P) (BT.node (o78 X P) BT.nil BT.nil) BT.nil)) (BT.node (o46 X P) (BT.node (o58 X P) (BT.node (o74 X P) BT.nil BT.nil) (BT.node (o93 X P) BT.nil BT.nil)) (BT.node (o66 X P) (BT.node (o85 X P) BT.nil BT.nil) BT.nil))))
noncomputable def tree201 (X : Tx) (P : Params) : BT := BT.node (boot_o_0 P) (BT.node (boot_o_1 P) (BT.node (o94 X P) (BT.node (boot_o_7 P) (BT.node (o51 X P) (BT.node (o67 X P) (BT.node (o104 X P) (BT.node (o168 X P) BT.nil BT.nil) BT.nil) (BT.node (o136 X P) (BT.node (o200 X P) BT.nil BT.nil) BT.nil)) (BT.node (o86 X P) (BT.node (o120 X P) (BT.node (o184 X P) BT.nil BT.nil) BT.nil) (BT.node (o152 X P) BT.nil BT.nil))) (BT.node (o59 X P) (BT.node (o81 X P) (BT.node (o112 X P) (BT.node (o176 X P) BT.nil BT.nil) BT.nil) (BT.node (o144 X P) BT.nil BT.nil)) (BT.node (o96 X P) (BT.node (o128 X P) (BT.node (o192 X P) BT.nil BT.nil) BT.nil) (BT.node (o160 X P) BT.nil BT.nil)))) (BT.node (o43 X P) (BT.node (o55 X P) (BT.node (o71 X P) (BT.node (o108 X P) (BT.node (o172 X P) BT.nil BT.nil) BT.nil) (BT.node (o140 X P) BT.nil BT.nil)) (BT.node (o90 X P) (BT.node (o124 X P) (BT.node (o188 X P) BT.nil BT.nil) BT.nil) (BT.node (o156 X P) BT.nil BT.nil))) (BT.node (o63 X P) (BT.node (o82 X P) (BT.node (o116 X P) (BT.node (o180 X P) BT.nil BT.nil) BT.nil) (BT.node (o148 X P) BT.nil BT.nil)) (BT.node (o100 X P) (BT.node (o132 X P) (BT.node (o196 X P) BT.nil BT.nil) BT.nil) (BT.node (o164 X P) BT.nil BT.nil))))) (BT.node (boot_o_5 P) (BT.node (boot_o_9 P) (BT.node (o53 X P) (BT.node (o69 X P) (BT.node (o106 X P) (BT.node (o170 X P) BT.nil BT.nil) BT.nil) (BT.node (o138 X P) BT.nil BT.nil)) (BT.node (o88 X P) (BT.node (o122 X P) (BT.node (o186 X P) BT.nil BT.nil) BT.nil) (BT.node (o154 X P) BT.nil BT.nil))) (BT.node (o61 X P) (BT.node (o77 X P) (BT.node (o114 X P) (BT.node (o178 X P) BT.nil BT.nil) BT.nil) (BT.node (o146 X P) BT.nil BT.nil)) (BT.node (o98 X P) (BT.node (o130 X P) (BT.node (o194 X P) BT.nil BT.nil) BT.nil) (BT.node (o162 X P) BT.nil BT.nil)))) (BT.node (o45 X P) (BT.node (o57 X P) (BT.node (o73 X P) (BT.node (o110 X P) (BT.node (o174 X P) BT.nil BT.nil) BT.nil) (BT.node (o142 X P) BT.nil BT.nil)) (BT.node (o92 X P) (BT.node (o126 X P) (BT.node (o190 X P) BT.nil BT.nil) BT.nil) (BT.node (o158 X P) BT.nil BT.nil))) (BT.node (o65 X P) (BT.node (o84 X P) (BT.node (o118 X P) (BT.node (o182 X P) BT.nil BT.nil) BT.nil) (BT.node (o150 X P) BT.nil BT.nil)) (BT.node (o102 X P) (BT.node (o134 X P) (BT.node (o198 X P) BT.nil BT.nil) BT.nil) (BT.node (o166 X P) BT.nil BT.nil)))))) (BT.node (boot_o_2 P) (BT.node (boot_o_4 P) (BT.node (boot_o_8 P) (BT.node (o52 X P) (BT.node (o68 X P) (BT.node (o105 X P) (BT.node (o169 X P) BT.nil BT.nil) BT.nil) (BT.node (o137 X P) (BT.node (o201 X P) BT.nil BT.nil) BT.nil)) (BT.node (o87 X P) (BT.node (o121 X P) (BT.node (o185 X P) BT.nil BT.nil) BT.nil) (BT.node (o153 X P) BT.nil BT.nil))) (BT.node (o60 X P) (BT.node (o76 X P) (BT.node (o113 X P) (BT.node (o177 X P) BT.nil BT.nil) BT.nil) (BT.node (o145 X P) BT.nil BT.nil)) (BT.node (o97 X P) (BT.node (o129 X P) (BT.node (o193 X P) BT.nil BT.nil) BT.nil) (BT.node (o161 X P) BT.nil BT.nil)))) (BT.node (o95 X P) (BT.node (o56 X P) (BT.node (o72 X P) (BT.node (o109 X P) (BT.node (o173 X P) BT.nil BT.nil) BT.nil) (BT.node (o141 X P) BT.nil BT.nil)) (BT.node (o91 X P) (BT.node (o125 X P) (BT.node (o189 X P) BT.nil BT.nil) BT.nil) (BT.node (o157 X P) BT.nil BT.nil))) (BT.node (o64 X P) (BT.node (o83 X P) (BT.node (o117 X P) (BT.node (o181 X P) BT.nil BT.nil) BT.nil) (BT.node (o149 X P) BT.nil BT.nil)) (BT.node (o101 X P) (BT.node (o133 X P) (BT.node (o197 X P) BT.nil BT.nil) BT.nil) (BT.node (o165 X P) BT.nil BT.nil))))) (BT.node (boot_o_6 P) (BT.node (boot_o_10 P) (BT.node (o54 X P) (BT.node (o70 X P) (BT.node (o107 X P) (BT.node (o171 X P) BT.nil BT.nil) BT.nil) (BT.node (o139 X P) BT.nil BT.nil)) (BT.node (o89 X P) (BT.node (o123 X P) (BT.node (o187 X P) BT.nil BT.nil) BT.nil) (BT.node (o155 X P) BT.nil BT.nil))) (BT.node (o62 X P) (BT.node (o78 X P) (BT.node (o115 X P) (BT.node (o179 X P) BT.nil BT.nil) BT.nil) (BT.node (o147 X P) BT.nil BT.nil)) (BT.node (o99 X P) (BT.node (o131 X P) (BT.node (o195 X P) BT.nil BT.nil) BT.nil) (BT.node (o163 X P) BT.nil BT.nil)))) (BT.node (o46 X P) (BT.node (o58 X P) (BT.node (o74 X P) (BT.node (o111 X P) (BT.node (o175 X P) BT.nil BT.nil) BT.nil) (BT.node (o143 X P) BT.nil BT.nil)) (BT.node (o93 X P) (BT.node (o127 X P) (BT.node (o191 X P) BT.nil BT.nil) BT.nil) (BT.node (o159 X P) BT.nil BT.nil))) (BT.node (o66 X P) (BT.node (o85 X P) (BT.node (o119 X P) (BT.node (o183 X P) BT.nil BT.nil) BT.nil) (BT.node (o151 X P) BT.nil BT.nil)) (BT.node (o103 X P) (BT.node (o135 X P) (BT.node (o199 X P) BT.nil BT.nil) BT.nil) (BT.node (o167 X P) BT.nil BT.nil))))))
noncomputable def tree340 (X : Tx) (P : Params) : BT := BT.node (boot_o_0 P) (BT.node (boot_o_1 P) (BT.node (o277 X P) (BT.node (boot_o_7 P) (BT.node (o51 X P) (BT.node (o67 X P) (BT.node (o104 X P) (BT.node (o168 X P) BT.nil BT.nil) (BT.node (o309 X P) BT.nil BT.nil)) (BT.node (o136 X P) (BT.node (o200 X P) BT.nil BT.nil) BT.nil)) (BT.node (o86 X P) (BT.node (o120 X P) (BT.node (o184 X P) BT.nil BT.nil) (BT.node (o325 X P) BT.nil BT.nil)) (BT.node (o152 X P) (BT.node (o293 X P) BT.nil BT.nil) BT.nil))) (BT.node (o59 X P) (BT.node (o81 X P) (BT.node (o112 X P) (BT.node (o176 X P) BT.nil BT.nil) (BT.node (o317 X P) BT.nil BT.nil)) (BT.node (o144 X P) (BT.node (o285 X P) BT.nil BT.nil) BT.nil)) (BT.node (o96 X P) (BT.node (o128 X P) (BT.node (o192 X P) BT.nil BT.nil) (BT.node (o333 X P) BT.nil BT.nil)) (BT.node (o160 X P) (BT.node (o301 X P) BT.nil BT.nil) BT.nil)))) (BT.node (o43 X P) (BT.node (o55 X P) (BT.node (o71 X P) (BT.node (o108 X P) (BT.node (o172 X P) BT.nil BT.nil) (BT.node (o313 X P) BT.nil BT.nil)) (BT.node (o140 X P) (BT.node (o281 X P) BT.nil BT.nil) BT.nil)) (BT.node (o90 X P) (BT.node (o124 X P) (BT.node (o188 X P) BT.nil BT.nil) (BT.node (o329 X P) BT.nil BT.nil)) (BT.node (o156 X P) (BT.node (o297 X P) BT.nil BT.nil) BT.nil))) (BT.node (o63 X P) (BT.node (o82 X P) (BT.node (o116 X P) (BT.node (o180 X P) BT.nil BT.nil) (BT.node (o321 X P) BT.nil BT.nil)) (BT.node (o148 X P) (BT.node (o289 X P) BT.nil BT.nil) BT.nil)) (BT.node (o100 X P) (BT.node (o132 X P) (BT.node (o196 X P) BT.nil BT.nil) (BT.node (o337 X P) BT.nil BT.nil)) (BT.node (o164 X P) (BT.node (o305 X P) BT.nil BT.nil) BT.nil))))) (BT.node (boot_o_5 P) (BT.node (boot_o_9 P) (BT.node (o53 X P) (BT.node (o69 X P) (BT.node (o106 X P) (BT.node (o170 X P) BT.nil BT.nil) (BT.node (o311 X P) BT.nil BT.nil)) (BT.node (o138 X P) (BT.node (o279 X P) BT.nil BT.nil) BT.nil)) (BT.node (o88 X P) (BT.node (o122 X P) (BT.node (o186 X P) BT.nil BT.nil) (BT.node (o327 X P) BT.nil BT.nil)) (BT.node (o154 X P) (BT.node (o295 X P) BT.nil BT.nil) BT.nil))) (BT.node (o61 X P) (BT.node (o77 X P) (BT.node (o114 X P) (BT.node (o178 X P) BT.nil BT.nil) (BT.node (o319 X P) BT.nil BT.nil)) (BT.node (o146 X P) (BT.node (o287 X P) BT.nil BT.nil) BT.nil)) (BT.node (o98 X P) (BT.node (o130 X P) (BT.node (o194 X P) BT.nil BT.nil) (BT.node (o335 X P) BT.nil BT.nil)) (BT.node (o162 X P) (BT.node (o303 X P) BT.nil BT.nil) BT.nil)))) (BT.node (o45 X P) (BT.node (o57 X P) (BT.node (o73 X P) (BT.node (o110 X P) (BT.node (o174 X P) BT.nil BT.nil) (BT.node (o315 X P) BT.nil BT.nil)) (BT.node (o142 X P) (BT.node (o283 X P) BT.nil BT.nil) BT.nil)) (BT.node (o92 X P) (BT.node (o126 X P) (BT.node (o190 X P) BT.nil BT.nil) (BT.node (o331 X P) BT.nil BT.nil)) (BT.node (o158 X P) (BT.node (o299 X P) BT.nil BT.nil) BT.nil))) (BT.node (o65 X P) (BT.node (o84 X P) (BT.node (o118 X P) (BT.node (o182 X P) BT.nil BT.nil) (BT.node (o323 X P) BT.nil BT.nil)) (BT.node (o150 X P) (BT.node (o291 X P) BT.nil BT.nil) BT.nil)) (BT.node (o102 X P) (BT.node (o134 X P) (BT.node (o198 X P) BT.nil BT.nil) (BT.node (o339 X P) BT.nil BT.nil)) (BT.node (o166 X P) (BT.node (o307 X P) BT.nil BT.nil) BT.nil)))))) (BT.node (boot_o_2 P) (BT.node (boot_o_4 P) (BT.node (boot_o_8 P) (BT.node (o52 X P) (BT.node (o68 X P) (BT.node (o105 X P) (BT.node (o169 X P) BT.nil BT.nil) (BT.node (o310 X P) BT.nil BT.nil)) (BT.node (o137 X P) (BT.node (o201 X P) BT.nil BT.nil) BT.nil)) (BT.node (o87 X P) (BT.node (o121 X P) (BT.node (o185 X P) BT.nil BT.nil) (BT.node (o326 X P) BT.nil BT.nil)) (BT.node (o153 X P) (BT.node (o294 X P) BT.nil BT.nil) BT.nil))) (BT.node (o60 X P) (BT.node (o76 X P) (BT.node (o113 X P) (BT.node (o177 X P) BT.nil BT.nil) (BT.node (o318 X P) BT.nil BT.nil)) (BT.node (o145 X P) (BT.node (o286 X P) BT.nil BT.nil) BT.nil)) (BT.node (o97 X P) (BT.node (o129 X P) (BT.node (o193 X P) BT.nil BT.nil) (BT.node (o334 X P) BT.nil BT.nil)) (BT.node (o161 X P) (BT.node (o302 X P) BT.nil BT.nil) BT.nil)))) (BT.node (o278 X P) (BT.node (o56 X P) (BT.node (o72 X P) (BT.node (o109 X P) (BT.node (o173 X P) BT.nil BT.nil) (BT.node (o314 X P) BT.nil BT.nil)) (BT.node (o141 X P) (BT.node (o282 X P) BT.nil BT.nil) BT.nil)) (BT.node (o91 X P) (BT.node (o125 X P) (BT.node (o189 X P) BT.nil BT.nil) (BT.node (o330 X P) BT.nil BT.nil)) (BT.node (o157 X P) (BT.node (o298 X P) BT.nil BT.nil) BT.nil))) (BT.node (o64 X P) (BT.node (o83 X P) (BT.node (o117 X P) (BT.node (o181 X P) BT.nil BT.nil) (BT.node (o322 X P) BT.nil BT.nil)) (BT.node (o149 X P) (BT.node (o290 X P) BT.nil BT.nil) BT.nil)) (BT.node (o101 X P) (BT.node (o133 X P) (BT.node (o197 X P) BT.nil BT.nil) (BT.node (o338 X P) BT.nil BT.nil)) (BT.node (o165 X P) (BT.node (o306 X P) BT.nil BT.nil) BT.nil))))) (BT.node (boot_o_6 P) (BT.node (boot_o_10 P) (BT.node (o54 X P) (BT.node (o70 X P) (BT.node (o107 X P) (BT.node (o171 X P) BT.nil BT.nil) (BT.node (o312 X P) BT.nil BT.nil)) (BT.node (o139 X P) (BT.node (o280 X P) BT.nil BT.nil) BT.nil)) (BT.node (o89 X P) (BT.node (o123 X P) (BT.node (o187 X P) BT.nil BT.nil) (BT.node (o328 X P) BT.nil BT.nil)) (BT.node (o155 X P) (BT.node (o296 X P) BT.nil BT.nil) BT.nil))) (BT.node (o62 X P) (BT.node (o78 X P) (BT.node (o115 X P) (BT.node (o179 X P) BT.nil BT.nil) (BT.node (o320 X P) BT.nil BT.nil)) (BT.node (o147 X P) (BT.node (o288 X P) BT.nil BT.nil) BT.nil)) (BT.node (o99 X P) (BT.node (o131 X P) (BT.node (o195 X P) BT.nil BT.nil) (BT.node (o336 X P) BT.nil BT.nil)) (BT.node (o163 X P) (BT.node (o304 X P) BT.nil BT.nil) BT.nil)))) (BT.node (o46 X P) (BT.node (o58 X P) (BT.node (o74 X P) (BT.node (o111 X P) (BT.node (o175 X P) BT.nil BT.nil) (BT.node (o316 X P) BT.nil BT.nil)) (BT.node (o143 X P) (BT.node (o284 X P) BT.nil BT.nil) BT.nil)) (BT.node (o93 X P) (BT.node (o127 X P) (BT.node (o191 X P) BT.nil BT.nil) (BT.node (o332 X P) BT.nil BT.nil)) (BT.node (o159 X P) (BT.node (o300 X P) BT.nil BT.nil) BT.nil))) (BT.node (o66 X P) (BT.node (o85 X P) (BT.node (o119 X P) (BT.node (o183 X P) BT.nil BT.nil) (BT.node (o324 X P) BT.nil BT.nil)) (BT.node (o151 X P) (BT.node (o292 X P) BT.nil BT.nil) BT.nil)) (BT.node (o103 X P) (BT.node (o135 X P) (BT.node (o199 X P) BT.nil BT.nil) (BT.node (o340 X P) BT.nil BT.nil)) (BT.node (o167 X P) (BT.node (o308 X P) BT.nil BT.nil) BT.nil))))))
noncomputable def tree389 (X : Tx) (P : Params) : BT := BT.node (boot_o_0 P) (BT.node (boot_o_1 P) (BT.node (o343 X P) (BT.node (boot_o_7 P) (BT.node (o51 X P) (BT.node (o67 X P) (BT.node (o104 X P) (BT.node (o168 X P) (BT.node (o377 X P) BT.nil BT.nil) BT.nil) (BT.node (o309 X P) BT.nil BT.nil)) (BT.node (o136 X P) (BT.node (o200 X P) BT.nil BT.nil) (BT.node (o345 X P) BT.nil BT.nil))) (BT.node (o86 X P) (BT.node (o120 X P) (BT.node (o184 X P) BT.nil BT.nil) (BT.node (o325 X P) BT.nil BT.nil)) (BT.node (o152 X P) (BT.node (o293 X P) BT.nil BT.nil) (BT.node (o361 X P) BT.nil BT.nil)))) (BT.node (o59 X P) (BT.node (o81 X P) (BT.node (o112 X P) (BT.node (o176 X P) (BT.node (o385 X P) BT.nil BT.nil) BT.nil) (BT.node (o317 X P) BT.nil BT.nil)) (BT.node (o144 X P) (BT.node (o285 X P) BT.nil BT.nil) (BT.node (o353 X P) BT.nil BT.nil))) (BT.node (o96 X P) (BT.node (o128 X P) (BT.node (o192 X P) BT.nil BT.nil) (BT.node (o333 X P) BT.nil BT.nil)) (BT.node (o160 X P) (BT.node (o301 X P) BT.nil BT.nil) (BT.node (o369 X P) BT.nil BT.nil))))) (BT.node (o43 X P) (BT.node (o55 X P) (BT.node (o71 X P) (BT.node (o108 X P) (BT.node (o172 X P) (BT.node (o381 X P) BT.nil BT.nil) BT.nil) (BT.node (o313 X P) BT.nil BT.nil)) (BT.node (o140 X P) (BT.node (o281 X P) BT.nil BT.nil) (BT.node (o349 X P) BT.nil BT.nil))) (BT.node (o90 X P) (BT.node (o124 X P) (BT.node (o188 X P) BT.nil BT.nil) (BT.node (o329 X P) BT.nil BT.nil)) (BT.node (o156 X P) (BT.node (o297 X P) BT.nil BT.nil) (BT.node (o365 X P) BT.nil BT.nil)))) (BT.node (o63 X P) (BT.node (o82 X P) (BT.node (o116 X P) (BT.node (o180 X P) (BT.node (o389 X P) BT.nil BT.nil) BT.nil) (BT.node (o321 X P) BT.nil BT.nil)) (BT.node (o148 X P) (BT.node (o289 X P) BT.nil BT.nil) (BT.node (o357 X P) BT.nil BT.nil))) (BT.node (o100 X P) (BT.node (o132 X P) (BT.node (o196 X P) BT.nil BT.nil) (BT.node (o337 X P) BT.nil BT.nil)) (BT.node (o164 X P) (BT.node (o305 X P) BT.nil BT.nil) (BT.node (o373 X P) BT.nil BT.nil)))))) (BT.node (boot_o_5 P) (BT.node (boot_o_9 P) (BT.node (o53 X P) (BT.node (o69 X P) (BT.node (o106 X P) (BT.node (o170 X P) (BT.node (o379 X P) BT.nil BT.nil) BT.nil) (BT.node (o311 X P) BT.nil BT.nil)) (BT.node (o138 X P) (BT.node (o279 X P) BT.nil BT.nil) (BT.node (o347 X P) BT.nil BT.nil))) (BT.node (o88 X P) (BT.node (o122 X P) (BT.node (o186 X P) BT.nil BT.nil) (BT.node (o327 X P) BT.nil BT.nil)) (BT.node (o154 X P) (BT.node (o295 X P) BT.nil BT.nil) (BT.node (o363 X P) BT.nil BT.nil)))) (BT.node (o61 X P) (BT.node (o77 X P) (BT.node (o114 X P) (BT.node (o178 X P) (BT.node (o387 X P) BT.nil BT.nil) BT.nil) (BT.node (o319 X P) BT.nil BT.nil)) (BT.node (o146 X P) (BT.node (o287 X P) BT.nil BT.nil) (BT.node (o355 X P) BT.nil BT.nil))) (BT.node (o98 X P) (BT.node (o130 X P) (BT.node (o194 X P) BT.nil BT.nil) (BT.node (o335 X P) BT.nil BT.nil)) (BT.node (o162 X P) (BT.node (o303 X P) BT.nil BT.nil) (BT.node (o371 X P) BT.nil BT.nil))))) (BT.node (o45 X P) (BT.node (o57 X P) (BT.node (o73 X P) (BT.node (o110 X P) (BT.node (o174 X P) (BT.node (o383 X P) BT.nil BT.nil) BT.nil) (BT.node (o315 X P) BT.nil BT.nil)) (BT.node (o142 X P) (BT.node (o283 X P) BT.nil BT.nil) (BT.node (o351 X P) BT.nil BT.nil))) (BT.node (o92 X P) (BT.node (o126 X P) (BT.node (o190 X P) BT.nil BT.nil) (BT.node (o331 X P) BT.nil BT.nil)) (BT.node (o158 X P) (BT.node (o299 X P) BT.nil BT.nil) (BT.node (o367 X P) BT.nil BT.nil)))) (BT.node (o65 X P) (BT.node (o84 X P) (BT.node (o118 X P) (BT.node (o182 X P) BT.nil BT.nil) (BT.node (o323 X P) BT.nil BT.nil)) (BT.node (o150 X P) (BT.node (o291 X P) BT.nil BT.nil) (BT.node (o359 X P) BT.nil BT.nil))) (BT.node (o102 X P) (BT.node (o134 X P) (BT.node (o198 X P) BT.nil BT.nil) (BT.node (o339 X P) BT.nil BT.nil)) (BT.node (o166 X P) (BT.node (o307 X P) BT.nil BT.nil) (BT.node (o375 X P) BT.nil BT.nil))))))) (BT.node (boot_o_2 P) (BT.node (boot_o_4 P) (BT.node (boot_o_8 P) (BT.node (o52 X P) (BT.node (o68 X P) (BT.node (o105 X P) (BT.node (o169 X P) (BT.node (o378 X P) BT.nil BT.nil) BT.nil) (BT.node (o310 X P) BT.nil BT.nil)) (BT.node (o137 X P) (BT.node (o201 X P) BT.nil BT.nil) (BT.node (o346 X P) BT.nil BT.nil))) (BT.node (o87 X P) (BT.node (o121 X P) (BT.node (o185 X P) BT.nil BT.nil) (BT.node (o326 X P) BT.nil BT.nil)) (BT.node (o153 X P) (BT.node (o294 X P) BT.nil BT.nil) (BT.node (o362 X P) BT.nil BT.nil)))) (BT.node (o60 X P) (BT.node (o76 X P) (BT.node (o113 X P) (BT.node (o177 X P) (BT.node (o386 X P) BT.nil BT.nil) BT.nil) (BT.node (o318 X P) BT.nil BT.nil)) (BT.node (o145 X P) (BT.node (o286 X P) BT.nil BT.nil) (BT.node (o354 X P) BT.nil BT.nil))) (BT.node (o97 X P) (BT.node (o129 X P) (BT.node (o193 X P) BT.nil BT.nil) (BT.node (o334 X P) BT.nil BT.nil)) (BT.node (o161 X P) (BT.node (o302 X P) BT.nil BT.nil) (BT.node (o370 X P) BT.nil BT.nil))))) (BT.node (o344 X P) (BT.node (o56 X P) (BT.node (o72 X P) (BT.node (o109 X P) (BT.node (o173 X P) (BT.node (o382 X P) BT.nil BT.nil) BT.nil) (BT.node (o314 X P) BT.nil BT.nil)) (BT.node (o141 X P) (BT.node (o282 X P) BT.nil BT.nil) (BT.node (o350 X P) BT.nil BT.nil))) (BT.node (o91 X P) (BT.node (o125 X P) (BT.node (o189 X P) BT.nil BT.nil) (BT.node (o330 X P) BT.nil BT.nil)) (BT.node (o157 X P) (BT.node (o298 X P) BT.nil BT.nil) (BT.node (o366 X P) BT.nil BT.nil)))) (BT.node (o64 X P) (BT.node (o83 X P) (BT.node (o117 X P) (BT.node (o181 X P) BT.nil BT.nil) (BT.node (o322 X P) BT.nil BT.nil)) (BT.node (o149 X P) (BT.node (o290 X P) BT.nil BT.nil) (BT.node (o358 X P) BT.nil BT.nil))) (BT.node (o101 X P) (BT.node (o133 X P) (BT.node (o197 X P) BT.nil BT.nil) (BT.node (o338 X P) BT.nil BT.nil)) (BT.node (o165 X P) (BT.node (o306 X P) BT.nil BT.nil) (BT.node (o374 X P) BT.nil BT.nil)))))) (BT.node (boot_o_6 P) (BT.node (boot_o_10 P) (BT.node (o54 X P) (BT.node (o70 X P) (BT.node (o107 X P) (BT.node (o171 X P) (BT.node (o380 X P) BT.nil BT.nil) BT.nil) (BT.node (o312 X P) BT.nil BT.nil)) (BT.node (o139 X P) (BT.node (o280 X P) BT.nil BT.nil) (BT.node (o348 X P) BT.nil BT.nil))) (BT.node (o89 X P) (BT.node (o123 X P) (BT.node (o187 X P) BT.nil BT.nil) (BT.node (o328 X P) BT.nil BT.nil)) (BT.node (o155 X P) (BT.node (o296 X P) BT.nil BT.nil) (BT.node (o364 X P) BT.nil BT.nil)))) (BT.node (o62 X P) (BT.node (o78 X P) (BT.node (o115 X P) (BT.node (o179 X P) (BT.node (o388 X P) BT.nil BT.nil) BT.nil) (BT.node (o320 X P) BT.nil BT.nil)) (BT.node (o147 X P) (BT.node (o288 X P) BT.nil BT.nil) (BT.node (o356 X P) BT.nil BT.nil))) (BT.node (o99 X P) (BT.node (o131 X P) (BT.node (o195 X P) BT.nil BT.nil) (BT.node (o336 X P) BT.nil BT.nil)) (BT.node (o163 X P) (BT.node (o304 X P) BT.nil BT.nil) (BT.node (o372 X P) BT.nil BT.nil))))) (BT.node (o46 X P) (BT.node (o58 X P) (BT.node (o74 X P) (BT.node (o111 X P) (BT.node (o175 X P) (BT.node (o384 X P) BT.nil BT.nil) BT.nil) (BT.node (o316 X P) BT.nil BT.nil)) (BT.node (o143 X P) (BT.node (o284 X P) BT.nil BT.nil) (BT.node (o352 X P) BT.nil BT.nil))) (BT.node (o93 X P) (BT.node (o127 X P) (BT.node (o191 X P) BT.nil BT.nil) (BT.node (o332 X P) BT.nil BT.nil)) (BT.node (o159 X P) (BT.node (o300 X P) BT.nil BT.nil) (BT.node (o368 X P) BT.nil BT.nil)))) (BT.node (o66 X P) (BT.node (o85 X P) (BT.node (o119 X P) (BT.node (o183 X P) BT.nil BT.nil) (BT.node (o324 X P) BT.nil BT.nil)) (BT.node (o151 X P) (BT.node (o292 X P) BT.nil BT.nil) (BT.node (o360 X P) BT.nil BT.nil))) (BT.node (o103 X P) (BT.node (o135 X P) (BT.node (o199 X P) BT.nil BT.nil) (BT.node (o340 X P) BT.nil BT.nil)) (BT.node (o167 X P) (BT.node (o308 X P) BT.nil BT.nil) (BT.node (o376 X P) BT.nil BT.nil)))))))
noncomputable def heap390 (X : Tx) (P : Params) : Heap := Heap.mk (Array.mk [boot_o_0 P, boot_o_1 P, boot_o_2 P, o343 X P, boot_o_4 P, boot_o_5 P, boot_o_6 P, boot_o_7 P, boot_o_8 P, boot_o_9 P, boot_o_10 P, o43 X P, o344 X P, o45 X P, o46 X P, o51 X P, o52 X P, o53 X P, o54 X P, o55 X P, o56 X P, o57 X P, o58 X P, o59 X P, o60 X P, o61 X P, o62 X P, o63 X P, o64 X P, o65 X P, o66 X P, o67 X P, o68 X P, o69 X P, o70 X P, o71 X P, o72 X P, o73 X P, o74 X P, o81 X P, o76 X P, o77 X P, o78 X P, o82 X P, o83 X P, o84 X P, o85 X P, o86 X P, o87 X P, o88 X P, o89 X P, o90 X P, o91 X P, o92 X P, o93 X P, o96 X P, o97 X P, o98 X P, o99 X P, o100 X P, o101 X P, o102 X P, o103 X P, o104 X P, o105 X P, o106 X P, o107 X P, o108 X P, o109 X P, o110 X P, o111 X P, o112 X P, o113 X P, o114 X P, o115 X P, o116 X P, o117 X P, o118 X P, o119 X P, o120 X P, o121 X P, o122 X P, o123 X P, o124 X P, o125 X P, o126 X P, o127 X P, o128 X P, o129 X P, o130 X P, o131 X P, o132 X P, o133 X P, o134 X P, o135 X P, o136 X P, o137 X P, o138 X P, o139 X P, o140 X P, o141 X P, o142 X P, o143 X P, o144 X P, o145 X P, o146 X P, o147 X P, o148 X P, o149 X P, o150 X P, o151 X P, o152 X P, o153 X P, o154 X P, o155 X P, o156 X P, o157 X P, o158 X P, o159 X P, o160 X P, o161 X P, o162 X P, o163 X P, o164 X P, o165 X P, o166 X P, o167 X P, o168 X P, o169 X P, o170 X P, o171 X P, o172 X P, o173 X P, o174 X P, o175 X P, o176 X P, o177 X P, o178 X P, o179 X P, o180 X P, o181 X P, o182 X P, o183 X P, o184 X P, o185 X P, o186 X P, o187 X P, o188 X P, o189 X P, o190 X P, o191 X P, o192 X P, o193 X P, o194 X P, o195 X P, o196 X P, o197 X P, o198 X P, o199 X P, o200 X P, o201 X P, o279 X P, o280 X P, o281 X P, o282 X P, o283 X P, o284 X P, o285 X P, o286 X P, o287 X P, o288 X P, o289 X P, o290 X P, o291 X P, o292 X P, o293 X P, o294 X P, o295 X P, o296 X P, o297 X P, o298 X P, o299 X P, o300 X P, o301 X P, o302 X P, o303 X P, o304 X P, o305 X P, o306 X P, o307 X P, o308 X P, o309 X P, o310 X P, o311 X P, o312 X P, o313 X P, o314 X P, o315 X P, o316 X P, o317 X P, o318 X P, o319 X P, o320 X P, o321 X P, o322 X P, o323 X P, o324 X P, o325 X P, o326 X P, o327 X P, o328 X P, o329 X P, o330 X P, o331 X P, o332 X P, o333 X P, o334 X P, o335 X P, o336 X P, o337 X P, o338 X P, o339 X P, o340 X P, o345 X P, o346 X P, o347 X P, o348 X P, o349 X P, o350 X P, o351 X P, o352 X P, o353 X P, o354 X P, o355 X P, o356 X P, o357 X P, o358 X P, o359 X P, o360 X P, o361 X P, o362 X P, o363 X P, o364 X P, o365 X P, o366 X P, o367 X P, o368 X P, o369 X P, o370 X P, o371 X P, o372 X P, o373 X P, o374 X P, o375 X P, o376 X P, o377 X P, o378 X P, o379 X P, o380 X P, o381 X P, o382 X P, o383 X P, o384 X P, o385 X P, o386 X P, o387 X P, o388 X P, o389 X P]) (Life.mk [] [] [] 0 [] [] false #[] [] 0 false false false 0 [2000, 10, 10] false 0 true [] [] 0 false)

/-! the pieces -/

noncomputable def envX (X : Tx) : Env := { scope := X.prog.main.scope, locals := mainNs, globals := mainNs, cells := [], code := .ref 13, frame := some 14 }
noncomputable def cdX (X : Tx) : Code := .body (behindTheImports X.prog) (envX X)
noncomputable def p0 : Pos := { line := 0, col := 0, endLine := 0, endCol := 0 }
noncomputable def p1 : Pos := { line := 5, col := 0, endLine := 9, endCol := 28 }
noncomputable def p2 : Pos := { line := 12, col := 0, endLine := 12, endCol := 8 }
noncomputable def p3 : Pos := { line := 13, col := 0, endLine := 80, endCol := 16 }
noncomputable def p4 : Pos := { line := 81, col := 0, endLine := 143, endCol := 20 }
noncomputable def p5 : Pos := { line := 202, col := 0, endLine := 214, endCol := 60 }
noncomputable def st1 (p : Program) : List Stmt := [nth p.main.body 0, nth p.main.body 1, nth p.main.body 2]
noncomputable def st2 (p : Program) : List Stmt := [nth p.main.body 3, nth p.main.body 4]
noncomputable def st3 (p : Program) : List Stmt := [nth p.main.body 5]
noncomputable def st4 (p : Program) : List Stmt := [nth p.main.body 6]
noncomputable def st5 (p : Program) : List Stmt := [nth p.main.body 7, nth p.main.body 8, nth p.main.body 9, nth p.main.body 10, nth p.main.body 11, nth p.main.body 12, nth p.main.body 13, nth p.main.body 14]
noncomputable abbrev ShX (t : Tx → Params → BT) (n k : Nat) (X : Tx) (w : World) (os : OsState) : SharedT := ⟨t X w.params, n, {}, #[], {}, k, os⟩
abbrev SegTy := (String → Option Builtin) → Program → World → Nat → Option Value → Nat → Nat → SharedT → Thread → Option (Flow × SharedT × Code × Pos)
/-- one piece: some statements take one heap to the next -/
abbrev Pc (f : SegTy) (tb : String → Option Builtin) (X : Tx) (N : Nat) (t : Tx → Params → BT) (n k : Nat) (st : Program → List Stmt) (p q : Pos) (t' : Tx → Params → BT) (n' k' : Nat) (w : World) : Prop :=
  (fun os => f tb X.prog w 11 (some (.ref 6)) 1 N (ShX t n k X w os) (piecesOf (st X.prog) (envX X) (cdX X) p [topFrame p0])) =
    fun os => some (Flow.next, ShX t' n' k' X w os, cdX X, q)
theorem Pc.turn {N t n k st p q t' n' k' w} (h : Pc PySem.W.Fast.tw10110043849684766642 PySem.W.Fast.tw14364793385576792824 XT N t n k st p q t' n' k' w) :
    Pc segRunT treeTable XN N t n k st p q t' n' k' w := by
  rw [PySem.W.Fast.te10110043849684766642, PySem.W.Fast.te14364793385576792824, X_eq]; exact h
theorem pc1 (w : World) : Pc segRunT treeTable XN 259 tree47 15 187 st1 p0 p1 tree78 43 224 w := Pc.turn (by kernel_rfl)
theorem pc2 (w : World) : Pc segRunT treeTable XN 223 tree78 43 224 st2 p1 p2 tree93 55 242 w := Pc.turn (by kernel_rfl)
theorem pc3 (w : World) : Pc segRunT treeTable XN 685 tree93 55 242 st3 p2 p3 tree201 161 388 w := Pc.turn (by kernel_rfl)
theorem pc4f (w : World) : Pc segRunT treeTable XN 561 tree201 161 388 st4 p3 p4 tree340 223 481 (w.withFollow "special-get-raises" false) := Pc.turn (by kernel_rfl)
theorem pc4t (w : World) : Pc segRunT treeTable XN 561 tree201 161 388 st4 p3 p4 tree340 223 481 (w.withFollow "special-get-raises" true) := Pc.turn (by kernel_rfl)
theorem pc4 (w : World) : Pc segRunT treeTable XN 561 tree201 161 388 st4 p3 p4 tree340 223 481 w := byRow2 "special-get-raises" (P := fun w => Pc segRunT treeTable XN 561 tree201 161 388 st4 p3 p4 tree340 223 481 w) pc4f pc4t w
theorem pc5 (w : World) : Pc segRunT treeTable XN 224 tree340 223 481 st5 p4 p5 tree389 268 547 w := Pc.turn (by kernel_rfl)

abbrev PreS (f : (String → Option Builtin) → Program → World → Nat → Option Value → Nat → Shared → Thread → Option (Shared × Thread)) (tb : String → Option Builtin) (dn : (String → Option Builtin) → Code → Sem PySem.Fin) (X : Tx) (w : World) : Prop :=
  (fun os => f tb X.prog w 11 (some (.ref 6)) 12 ⟨boot_heap w.params, #[], boot_drawn, boot_toks, os⟩ (topStub X.prog)) =
    fun os => some (⟨heap46 X w.params, #[], {}, 187, os⟩, ⟨dn tb (cdX X), cdX X, p0, [topFrame p0]⟩)
theorem preT (w : World) : PreS PySem.W.Fast.tw15667345088766844465 PySem.W.Fast.tw14364793385576792824 PySem.W.Fast.tw11892475500146522536 XT w := by kernel_rfl
theorem pre (w : World) : PreS topGo treeTable denote XN w := by
  rw [PySem.W.Fast.te15667345088766844465, PySem.W.Fast.te14364793385576792824, PySem.W.Fast.te11892475500146522536, X_eq]; exact preT w
abbrev BlockS (f : (String → Option Builtin) → Program → World → Nat → Option Value → Nat → Nat → Shared → Thread → Option (Flow × Shared × Code × Pos)) (tb : String → Option Builtin) (X : Tx) (w : World) : Prop :=
  (fun os => f tb X.prog w 11 (some (.ref 6)) 1 1 ⟨heap46 X w.params, #[], {}, 187, os⟩ (blockOf (behindTheImports X.prog) (envX X) (cdX X) p0 [topFrame p0])) =
    fun os => some (Flow.next, (ShX tree47 15 187 X w os).abs, cdX X, p0)
theorem blockT (w : World) : BlockS PySem.W.Fast.tw14374325043358763698 PySem.W.Fast.tw14364793385576792824 XT w := by kernel_rfl
theorem block (w : World) : BlockS segRun treeTable XN w := by
  rw [PySem.W.Fast.te14374325043358763698, PySem.W.Fast.te14364793385576792824, X_eq]; exact blockT w
abbrev FinS (f : (String → Option Builtin) → Program → World → Nat → Option Value → Nat → Shared → Thread → Option Shared) (tb : String → Option Builtin) (X : Tx) (w : World) : Prop :=
  (fun os => f tb X.prog w 11 (some (.ref 6)) 2 (ShX tree389 268 547 X w os).abs ⟨doneF Flow.next, cdX X, p5, [topFrame p0]⟩) =
    fun os => some ⟨heap390 X w.params, #[], {}, 547, os⟩
theorem finT (w : World) : FinS PySem.W.Fast.tw14082659384304107361 PySem.W.Fast.tw14364793385576792824 XT w := by kernel_rfl
theorem finS (w : World) : FinS topRun treeTable XN w := by
  rw [PySem.W.Fast.te14082659384304107361, PySem.W.Fast.te14364793385576792824, X_eq]; exact finT w

theorem body_is : behindTheImports XN.prog = st1 XN.prog ++ (st2 XN.prog ++ (st3 XN.prog ++ (st4 XN.prog ++ (st5 XN.prog ++ [])))) := by kernel_rfl
abbrev stepsAll : Nat := 12 + (1 + (259 + (223 + (685 + (561 + (224 + 2))))))
theorem run_is (w : World) (os : OsState) : topRun treeTable PySem.Challenge.pw_nz0216_01 w 11 (some (.ref 6)) stepsAll ⟨boot_heap w.params, #[], boot_drawn, boot_toks, os⟩ (topStub PySem.Challenge.pw_nz0216_01) =
    some ⟨heap390 XN w.params, #[], {}, 547, os⟩ := by
  refine go_top (congrFun (pre w) os) (piece_block (congrFun (block w) os) ?_)
  refine (congrArg (fun l => topRun treeTable PySem.Challenge.pw_nz0216_01 w 11 (some (.ref 6)) (259 + (223 + (685 + (561 + (224 + 2))))) (ShX tree47 15 187 XN w os).abs (restOf l (envX XN) (cdX XN) p0 [topFrame p0])) body_is).trans ?_
  exact piece_app (segRun_of (congrFun (pc1 w) os)) (piece_app (segRun_of (congrFun (pc2 w) os)) (piece_app (segRun_of (congrFun (pc3 w) os))
    (piece_app (segRun_of (congrFun (pc4 w) os)) (piece_app (segRun_of (congrFun (pc5 w) os)) (piece_nil (congrFun (finS w) os))))))

/-! the looks at the heap that is left -/
noncomputable def vX (X : Tx) : Program := view X.prog [0, 1, 3, 4, 7, 8, 9, 10, 11, 12, 13, 14]
noncomputable def lsX (X : Tx) : List Str := [X.S c14, X.S c29, X.S c83]
noncomputable abbrev SfX (X : Tx) (w : World) (os : OsState) : Shared := ⟨heap390 X w.params, #[], {}, 547, os⟩
noncomputable abbrev myXt : Shared → Bool := fun s => xlAt (vX XN) [] s && recOk [] s
theorem look_statics (w : World) : (fun os => staticsOk (importedModules XN.prog.main.body) (boot_heap w.params) (heap390 XN w.params) && namesBound XN.prog (heap390 XN w.params) && gensDone (SfX XN w os) && laidKept (boot_heap w.params) (heap390 XN w.params)) = fun _ => true := by
  rewrite [PySem.W.Fast.te5923862056798008813, X_eq]; kernel_rfl
theorem look_seen (w : World) : (fun os => seen ((recsOf (vX XN)).map (·.name)) (ownsOf (vX XN)) [] { SfX XN w os with gens := #[] }) = fun _ => expectedOf (vX XN) := by
  rewrite [PySem.W.Fast.te5160383126252970620, PySem.W.Fast.te3399658132070893891, PySem.W.Fast.te5991557255702980513, X_eq]; kernel_rfl
theorem look_blt (w : World) : (heap390 XN w.params).bltView = bltViewBooted := by
  rewrite [X_eq]; kernel_rfl
theorem look_keys (w : World) : (fun os => (SfX XN w os).heap.keysOk (looseW (vX XN) (lsX XN)) ((recsOf (vX XN)).map (·.name)) ((litsOf (vX XN)).map (·.1)) ((clssOf (vX XN) (looseW (vX XN) (lsX XN))).map (·.name)) && (SfX XN w os).heap.accountedOkI (importedModules XN.prog.main.body) && (SfX XN w os).heap.isNs mainGlobals && (SfX XN w os).heap.isNs builtinsNs && tablesOk (vX XN) (SfX XN w os).heap && (xlAt (vX XN) [] (SfX XN w os) && recOk [] (SfX XN w os)) && (if true = true then (SfX XN w os).gens.size == 0 else !leftWithCleanup (SfX XN w os).gens)) = fun _ => true := by
  rewrite [PySem.W.Fast.te10880121769531294198, PySem.W.Fast.te821141287760084731, PySem.W.Fast.te3399658132070893891, PySem.W.Fast.te7409074990110511671, PySem.W.Fast.te13664370479719496447, PySem.W.Fast.te14722251495701143533, PySem.W.Fast.te5923862056798008813, PySem.W.Fast.te10994771534591457954, X_eq]; kernel_rfl
theorem look_tabs (w : World) : (fun os => tabsOk (vX XN) (SfX XN w os)) = fun _ => true := by
  rewrite [PySem.W.Fast.te479339242167458305, X_eq]; kernel_rfl
theorem look_pin (w : World) : (fun os => pinSeenD (vX XN) (drecsOf (vX XN)) (SfX XN w os)) = fun _ => pinGoodD (drecsOf (vX XN)) := by
  rewrite [PySem.W.Fast.te16090120013241838585, PySem.W.Fast.te3247288618530077131, X_eq]; kernel_rfl
theorem look_plainE (w : World) : (fun os => plainSeenE (vX XN) (looseW (vX XN) (lsX XN)) (SfX XN w os)) = fun _ => plainGoodE (vX XN) (looseW (vX XN) (lsX XN)) := by
  rewrite [PySem.W.Fast.te2386780881361962483, PySem.W.Fast.te821141287760084731, X_eq]; kernel_rfl
theorem look_plainD (w : World) : (fun os => plainSeenD (vX XN) (lsX XN) (SfX XN w os)) = fun _ => plainGoodD (vX XN) (lsX XN) := by
  rewrite [PySem.W.Fast.te11698064438423848299, X_eq]; kernel_rfl
theorem look_wide (w : World) : (fun os => wideSeen (vX XN) (SfX XN w os)) = fun _ => wideGood (vX XN) := by
  rewrite [PySem.W.Fast.te7317090234206586261, X_eq]; kernel_rfl
theorem look_cls (w : World) : (fun os => clsSeenW (vX XN) (lsX XN) (SfX XN w os)) = fun _ => clsGoodW (vX XN) (lsX XN) := by
  rewrite [PySem.W.Fast.te7369524293546568484, X_eq]; kernel_rfl
/-- what the walk reads of the heap -/
noncomputable def myHook : Hook := kHook myK myAs (fun _ => by kernel_rfl)
theorem look_K (w : World) : (fun os => myHook.obs (SfX XN w os)) = fun _ => myHook.val w := by kernel_rfl

theorem opening_is : opening PySem.Challenge.pw_nz0216_01 = plainProg PySem.Challenge.pw_nz0216_01.main.scope.names := by kernel_rfl
theorem fence_is (s : Shared) : fenceModules? PySem.Challenge.pw_nz0216_01 s = some s := by kernel_rfl
theorem ann_is : Str.ofString "__annotations__" = ST c9 := (show Str.ofString "__annotations__" = SN c9 by kernel_rfl).trans (congrFun SN_eq _)
theorem size_is (w : World) : ((boot_heap w.params).isNs mainGlobals && (#[] : Array GenState).size == 0, (boot_heap w.params).objs.size, (boot_heap w.params).nsMap mainGlobals (Str.ofString "__annotations__")) = (true, 11, some (.ref 6)) := by
  rewrite [PySem.W.Fast.te8920871248978507458, ann_is]; kernel_rfl
theorem left_is : LeftO PySem.Challenge.pw_nz0216_01 (vX XN) (lsX XN) myXt myHook.obs myHook.val 4020 :=
  LeftO.of_pieces (boot_open opening_is (by decide) fence_is) size_is run_is (by decide) fun w => funext fun os =>
    looks_pair (congrFun (look_statics w) os) (looks_pair (looks_pair (congrFun (look_seen w) os) (looks_pair (look_blt w) (looks_pair (congrFun (look_keys w) os) (looks_pair (congrFun (look_tabs w) os) (looks_pair (congrFun (look_pin w) os)
      (looks_pair (congrFun (look_plainE w) os) (looks_pair (congrFun (look_plainD w) os) (looks_pair (congrFun (look_wide w) os) (congrFun (look_cls w) os))))))))) (congrFun (look_K w) os))
end Mine.Hd
end

section
set_option maxHeartbeats 8000000
namespace Mine.Hd
open PySem PySem.Calls PyProof.Rows PySem.W
noncomputable def posOf : Stmt → Pos
  | .FunctionDef _ _ _ _ _ _ _ _ _ p => p
  | _ => default
noncomputable def myD : DefRec := { name := Str.ofString "law", params := parsOf (topSt 14), body := inner (topSt 14), scope := scopeOf (topSt 14), pos := posOf (topSt 14) }
theorem def_is : defOf (vX XN) (Str.ofString "law") = some (myD, []) := by kernel_rfl
theorem theDef_is : PySem.Challenge.pw_nz0216_01.theDef (Str.ofString "law") = some (myD.params, myD.body, myD.scope) := by kernel_rfl
theorem kw_is : kwWritten? myD.params.kwonlyargs myD.params.kw_defaults = some [] := by kernel_rfl
end Mine.Hd
end

section
namespace Mine
open PySem PySem.Calls PyProof.Rows PySem.W

/-- no way out by an exception -/
abbrev NoE : Value → Shared → Prop := fun _ _ => False

section
variable {α β : Type} {M : Model} {A : Around} {E : Value → Shared → Prop} {s : Shared} {env : Env}

theorem b_up {t : Sem α} {Q : α → Shared → Prop} (h : wpB M A t Q NoE s) : wpB M A t Q E s := b_mono h (fun _ _ x => x) fun _ _ x => x.elim
theorem b_of_eq {t : Sem α} {a : α} {Q : α → Shared → Prop} (h : t = pure a) (hQ : Q a s) : wpB M A t Q E s := h ▸ b_pure hQ
theorem b_onRaise' {m : Sem α} {k : Value → Sem Unit} {Q : α → Shared → Prop} (h : wpB M A m Q NoE s) : wpB M A (m.onRaise k) Q NoE s :=
  b_onRaise (b_mono h (fun _ _ x => x) fun _ _ x => x.elim)
theorem b_standAt {pos : Pos} {Q : Unit → Shared → Prop} (h : Q () s) : wpB M A (standAt pos) Q E s := fun _ _ _ _ => h
theorem b_point {Q : Unit → Shared → Prop} (h : Q () s) : wpB M A point Q E s := fun _ _ _ _ => h
theorem b_rule {tag : String} {Q : Unit → Shared → Prop} (h : Q () s) : wpB M A (rule tag) Q E s := fun _ _ _ _ => h
theorem b_operate {vs : List Value} {m : Sem Value} {Q : Value → Shared → Prop} (h : wpB M A m Q E s) : wpB M A (operate vs m) Q E s :=
  fun Γ p hΓ hc => by rw [Sem.wp_operate]; exact h Γ p hΓ hc
theorem b_release {vs keep : List Value} {Q : Unit → Shared → Prop} (h : Q () s) : wpB M A (release vs keep) Q E s :=
  fun Γ p hΓ hc => by rw [Sem.wp_release]; exact h
theorem b_bindName {x : Str} {v : Value} {Q : Unit → Shared → Prop} (h : wpB M A (storeName env x v) Q E s) : wpB M A (bindName env x v) Q E s :=
  fun Γ p hΓ hc => by rw [Sem.wp_bindName]; exact h Γ p hΓ hc
theorem b_map {m : Sem α} {f : α → β} {Q : β → Shared → Prop} (h : wpB M A m (fun a s' => Q (f a) s') E s) :
    wpB M A (f <$> m) Q E s := fun Γ p hΓ hc => by rw [Sem.wp_map]; exact h Γ p hΓ hc
theorem b_attempt {m : Sem α} {Q : Except Value α → Shared → Prop} (h : wpB M A m (fun a => Q (.ok a)) (fun e => Q (.error e)) s) :
    wpB M A m.attempt Q E s := fun Γ p hΓ hc => by rw [Sem.wp_attempt]; exact h Γ p hΓ hc
theorem b_tryCatch {m : Sem α} {k : Value → Sem α} {Q : α → Shared → Prop} (h : wpB M A m Q NoE s) : wpB M A (tryCatch m k) Q E s := fun Γ p hΓ hc => by
  rw [Sem.wp_tryCatch']
  exact Sem.wp_mono M Γ m (fun _ _ _ h' => h') (fun e p' s' h' => h'.elim) p s (h Γ p hΓ hc)
theorem b_keep {vs : List Value} {m : Sem α} {Q : α → Shared → Prop} (h : wpB M A m Q E s) : wpB M A (m.keep vs) Q E s :=
  fun Γ p hΓ hc => by rw [Sem.wp_keep]; exact h Γ p hΓ hc

theorem Calm.enter {Γ : PySem.Ctx} (hc : Calm Γ) {c : Code} (hq : calm c = true) (h : Option Value) (p : Pos) : Calm (Γ.enter c h p) :=
  ⟨hq, fun x hx => by
    rcases List.mem_cons.mp hx with rfl | hx
    · exact hc.here
    · exact hc.below x hx⟩
theorem Calm.goto {Γ : PySem.Ctx} (hc : Calm Γ) {c : Code} (hq : calm c = true) : Calm (Γ.goto c) := ⟨hq, hc.below⟩

theorem codeB_mono {c : Code} {R R' : Result → Shared → Prop} (h : codeB M A c R s) (hR : ∀ r s, R r s → R' r s) : codeB M A c R' s :=
  fun Γ p hc hΓ hl => wpCode_mono hR (h Γ p hc hΓ hl)

theorem b_run {c : Code} {h : Option Value} {Q : Flow → Shared → Prop}
    (hc : codeB M (A.mark h) c (fun r s' => match r with | .ok f => Q f s' | .error e => E e s') s) (hnb : h ≠ some byPass := by intro x; cases x) (hq : calm c = true := by rfl) :
    wpB M A (run c h) Q E s :=
  fun Γ p hΓ hl => by rw [Sem.wp_run]; exact hc _ p rfl (hΓ.enter c h p hnb) (hl.enter hq h p)

theorem b_runValue {c : Code} {Q : Value → Shared → Prop}
    (hc : codeB M A c (fun r s' => match r with | .ok (.ret v) => Q v s' | .ok _ => False | .error e => E e s') s) (hq : calm c = true := by rfl) :
    wpB M A (runValue c) Q E s := fun Γ p hΓ hl => by rw [Sem.wp_runValue]; exact hc _ p rfl (hΓ.enter c none p (by intro x; cases x)) (hl.enter hq none p)

theorem b_call {f : Value} {pos : List Value} {kw : List (Str × Value)} {Q : Value → Shared → Prop}
    (hc : codeB M A (.call f ⟨pos, kw⟩) (fun r s' => match r with | .ok (.ret v) => Q v s' | .ok _ => False | .error e => E e s') s) :
    wpB M A (call f pos kw) Q E s := b_runValue hc

theorem codeB_of_tree {c : Code} {R : Result → Shared → Prop}
    (h : wpB M (A.under c) (M.den c) (fun fin s' => match fin with | .done f => R (.ok f) s' | .again c' => c'.quiet = true ∧ calm c' = true ∧ codeB M A c' R s')
      (fun e s' => R (.error e) s') s) : codeB M A c R s := fun Γ p hc hΓ hl => by
  rw [wpCode_iff_wp, hc]
  refine Sem.wp_mono M Γ _ (fun fin p' s' h' => ?_) (fun _ _ _ h' => h') p s (h Γ p (hc ▸ hΓ.in) hl)
  cases fin with
  | done f => exact h'
  | again c' => exact ⟨h'.1, h'.2.2 (Γ.goto c') p' rfl (hΓ.goto c') (hl.goto h'.2.1)⟩

theorem codeB_loop' {c : Code} {R : Result → Shared → Prop} (hq : c.quiet = true) (hcq : calm c = true) (I : Nat → Shared → Prop)
    (turn : ∀ n s, I n s → wpB M (A.under c) (M.den c)
      (fun fin s' => match fin with
        | .done f => R (.ok f) s'
        | .again c' => (c' = c ∧ ∃ m, m < n ∧ I m s') ∨ (c'.quiet = true ∧ calm c' = true ∧ codeB M A c' R s')) (fun e s' => R (.error e) s') s)
    (n : Nat) (h : I n s) : codeB M A c R s := by
  induction n using Nat.strongRecOn generalizing s with
  | ind n ih =>
    refine codeB_of_tree (b_mono (turn n s h) (fun fin s' hf => ?_) fun _ _ h' => h')
    cases fin with
    | done f => exact hf
    | again c' =>
      rcases hf with ⟨rfl, m, hm, hI⟩ | hf
      · exact ⟨hq, hcq, ih m hm hI⟩
      · exact hf

/-- what a code hands on, no exception among it -/
noncomputable def Fl (Q : Flow → Shared → Prop) : Result → Shared → Prop := fun r s' => match r with | .ok f => Q f s' | .error _ => False
noncomputable def Vl (Q : Value → Shared → Prop) : Result → Shared → Prop := fun r s' => match r with | .ok (.ret v) => Q v s' | _ => False

theorem b_runOwn {c : Code} {Q : Flow → Shared → Prop} (hc : codeB M A c (Fl Q) s) (hq : calm c = true := by rfl) : wpB M A (runOwn c env) Q NoE s := by
  unfold runOwn
  refine b_onRaise' (b_run (h := none) ?_ (hq := hq))
  have e : A.mark none = A := by cases A; rfl
  rw [e]
  exact codeB_mono hc fun r s' hr => by cases r <;> exact hr

theorem b_calls {f : Value} {pos : List Value} {kw : List (Str × Value)} {Q : Value → Shared → Prop} (hc : codeB M A (.call f ⟨pos, kw⟩) (Vl Q) s) : wpB M A (call f pos kw) Q NoE s :=
  b_call (codeB_mono hc fun r s' hr => by rcases r with e | (_ | _ | _ | v) <;> exact hr)
theorem b_runs {c : Code} {Q : Value → Shared → Prop} (hc : codeB M A c (Vl Q) s) (hq : calm c = true := by rfl) : wpB M A (runValue c) Q NoE s :=
  b_runValue (codeB_mono hc fun r s' hr => by rcases r with e | (_ | _ | _ | v) <;> exact hr) hq

/-! statements -/
theorem b_execs_nil {Q : Flow → Shared → Prop} (h : Q .next s) : wpB M A (execs [] env) Q E s := fun _ _ _ _ => h
theorem b_execs_cons {st rest} {Q : Flow → Shared → Prop}
    (h : wpB M A (exec st env) (fun f s' => match f with | .next => wpB M A (execs rest env) Q E s' | f => Q f s') E s) :
    wpB M A (execs (st :: rest) env) Q E s := by
  rw [execs_cons]
  refine b_bind (b_mono h (fun f s' h' => ?_) fun _ _ h' => h')
  cases f <;> first | exact h' | exact b_pure h'
/-- a statement that goes on to the next one always -/
theorem b_execs_next {st rest} {Q : Flow → Shared → Prop}
    (h : wpB M A (exec st env) (fun f s' => f = .next ∧ wpB M A (execs rest env) Q E s') E s) : wpB M A (execs (st :: rest) env) Q E s :=
  b_execs_cons (b_mono h (fun f s' h' => by obtain ⟨rfl, h'⟩ := h'; exact h') fun _ _ x => x)

theorem b_Return_some {e pos} {Q : Flow → Shared → Prop} (h : wpB M A (eval e env) (fun v => Q (.ret v)) E s) :
    wpB M A (exec (.Return (some e) pos) env) Q E s := by
  rw [exec_Return_some]
  exact b_bind (b_standAt (b_bind (b_mono h (fun v s' h' => b_pure h') fun _ _ x => x)))
theorem b_Break {pos} {Q : Flow → Shared → Prop} (h : Q .brk s) : wpB M A (exec (.Break pos) env) Q E s := fun _ _ _ _ => h

theorem b_If {test body orelse pos} {Q : Flow → Shared → Prop}
    (h : wpB M A (isTrue test env (eval test env))
      (fun b s₂ => if b = true then wpB M A (execs body env) Q E s₂ else wpB M A (execs orelse env) Q E s₂) E s) :
    wpB M A (exec (.If test body orelse pos) env) Q E s := by
  rw [exec_If]
  refine b_bind (b_standAt (b_bind (b_mono h (fun b s₂ h₂ => ?_) fun _ _ x => x)))
  cases b <;> exact h₂

theorem b_Expr {e pos} {Q : Flow → Shared → Prop} (h : wpB M A (eval e env) (fun v s' => (∀ a, v ≠ .ref a) ∧ Q .next s') E s)
    (hi : interactive env = false := by rfl) (hs : swapsWith e none pos.line env = pure false := by rfl) :
    wpB M A (exec (.Expr e pos) env) Q E s := by
  rw [exec_Expr env e pos hi hs]
  refine b_bind (b_standAt (b_bind (b_mono h (fun v s' h' => ?_) fun _ _ x => x)))
  rw [dropValue_plain h'.1]
  exact b_pure h'.2

theorem exec_Assign1 (t value pos) (hs : swapsWith value (some t) pos.line env = pure false) (hw : swappedStores [t] value env = pure none) (ht : ∀ e p, t ≠ .Starred e p) : exec (.Assign [t] value pos) env = (do
    standAt pos
    let v ← eval value env
    assign t env v
    pure .next) := by
  have e : exec (.Assign [t] value pos) env = (do
      standAt pos
      if ← swapsWith value (some t) pos.line env then do
        evalThenUse value env fun v => assignAll v ((assignEach [t] env).map (·.2))
        pure .next
      else do
        let v ← eval value env
        assignStores env v (← swappedStores [t] value env) ((assignEach [t] env).map (·.2))) := rfl
  rw [e, hs, hw]
  cases t <;> first | rfl | exact absurd rfl (ht _ _)

theorem b_Assign {t value pos} {Q : Flow → Shared → Prop}
    (h : wpB M A (eval value env) (fun v s₁ => wpB M A (assign t env v) (fun _ => Q .next) E s₁) E s)
    (hs : swapsWith value (some t) pos.line env = pure false := by rfl) (hw : swappedStores [t] value env = pure none := by rfl) (ht : ∀ e p, t ≠ .Starred e p := by nofun) :
    wpB M A (exec (.Assign [t] value pos) env) Q E s := by
  rw [exec_Assign1 t value pos hs hw ht]
  exact b_bind (b_standAt (b_bind (b_mono h (fun v s₁ h₁ => b_bind (b_mono h₁ (fun _ _ q => b_pure q) fun _ _ x => x)) fun _ _ x => x)))
theorem b_assign_Name {x pos v} {Q : Unit → Shared → Prop} (h : wpB M A (storeName env x v) Q E s) : wpB M A (assign (.Name x pos) env v) Q E s := by
  rw [PySem.assign_Name]; exact b_bind (b_standAt (b_bindName h))
theorem b_assign_Attribute {o attr pos v} {Q : Unit → Shared → Prop} (h : wpB M A (eval o env) (fun ov s₁ => wpB M A (setAttr ov attr v) (fun _ => Q ()) E s₁) E s) :
    wpB M A (assign (.Attribute o attr pos) env v) Q E s := by
  have e : assign (.Attribute o attr pos) env v = (do
      let ov ← holding [v] (eval o env)
      standAt pos.atName
      holding [v, ov] (setAttr ov attr v)
      release [v, ov] []) := rfl
  rw [e]
  exact b_bind (b_holding (b_mono h (fun ov s₁ h₁ => b_bind (b_standAt (b_bind (b_holding (b_mono h₁ (fun _ _ q => b_release q) fun _ _ x => x))))) fun _ _ x => x))
theorem assign_Subscript_eq (o i pos v) (env : Env) : ∃ vs : Value → Value → List Value, assign (.Subscript o i pos) env v = (do
      let ov ← holding [v] (eval o env)
      let iv ← holding [v, ov] (eval i env)
      standAt pos
      holding [v, ov, iv] (setItem ov iv v)
      release (vs ov iv) []) := ⟨fun ov iv => (match i with | .Slice _ _ none _ => [iv, v, ov] | _ => [v, ov, iv]), rfl⟩
theorem b_assign_Subscript {o i pos v} {Q : Unit → Shared → Prop} (h : wpB M A (eval o env) (fun ov s₁ => wpB M A (eval i env) (fun iv s₂ => wpB M A (setItem ov iv v) (fun _ => Q ()) E s₂) E s₁) E s) :
    wpB M A (assign (.Subscript o i pos) env v) Q E s := by
  obtain ⟨vs, e⟩ := assign_Subscript_eq o i pos v env
  rw [e]
  exact b_bind (b_holding (b_mono h (fun ov s₁ h₁ => b_bind (b_holding (b_mono h₁ (fun iv s₂ h₂ => b_bind (b_standAt (b_bind (b_holding (b_mono h₂ (fun _ _ q => b_release q) fun _ _ x => x))))) fun _ _ x => x))) fun _ _ x => x))
theorem b_AugAssign {x pos' op value pos} {Q : Flow → Shared → Prop}
    (h : wpB M A (loadName env x) (fun old s₁ => wpB M A (eval value env) (fun v s₂ => wpB M A (inplaceOp op old v)
      (fun r s₃ => wpB M A (storeName env x r) (fun _ => Q .next) E s₃) E s₂) E s₁) E s) :
    wpB M A (exec (.AugAssign (.Name x pos') op value pos) env) Q E s := by
  rw [exec_AugAssign_Name]
  exact b_bind (b_standAt (b_bind (b_mono h (fun old s₁ h₁ => b_bind (b_holding (b_mono h₁ (fun v s₂ h₂ => b_bind (b_standAt (b_bind (b_operate (b_mono h₂ (fun r s₃ h₃ => b_bind (b_standAt (b_bind (b_bindName (b_mono h₃ (fun _ _ q => b_pure q) fun _ _ x => x))))) fun _ _ x => x))))) fun _ _ x => x))) fun _ _ x => x)))

/-! expressions -/
theorem b_Name {x pos} {Q : Value → Shared → Prop} (h : wpB M A (loadName env x) Q E s) (hd : (x == ("__debug__" : Str)) = false := by decide) :
    wpB M A (eval (.Name x pos) env) Q E s := by
  rw [eval_Name env x pos hd]
  exact b_bind (b_standAt h)
theorem b_BinOp {l op r pos} {Q : Value → Shared → Prop}
    (h : wpB M A (eval l env) (fun a s₁ => wpB M A (eval r env) (fun b s₂ => wpB M A (binaryOp op a b) Q E s₂) E s₁) E s) :
    wpB M A (eval (.BinOp l op r pos) env) Q E s := by
  rw [eval_BinOp]
  exact b_bind (b_mono h (fun a s₁ h₁ => b_bind (b_holding (b_mono h₁ (fun b s₂ h₂ => b_bind (b_standAt (b_operate h₂))) fun _ _ x => x))) fun _ _ x => x)
theorem b_Compare {l op r pos} {Q : Value → Shared → Prop}
    (h : wpB M A (eval l env) (fun a s₁ => wpB M A (eval r env) (fun b s₂ => wpB M A (compareOp op a b) Q E s₂) E s₁) E s)
    (hm : behindInMarks op r = false := by with_unfolding_all rfl) :
    wpB M A (eval (.Compare l [op] [r] pos) env) Q E s := by
  rw [eval_Compare1, markedBehindIn_of_false hm]
  exact b_bind (b_mono h (fun a s₁ h₁ => b_bind (b_holding (b_mono h₁ (fun b s₂ h₂ => b_bind (b_standAt (b_operate h₂))) fun _ _ x => x))) fun _ _ x => x)
theorem b_isTrue_Compare {l op r pos whole} {Q : Bool → Shared → Prop}
    (h : wpB M A (eval l env) (fun a s₁ => wpB M A (eval r env) (fun b s₂ => wpB M A (compareOp op a b)
      (fun c s₃ => wpB M A (truthy c) Q E s₃) E s₂) E s₁) E s)
    (hm : behindInMarks op r = false := by with_unfolding_all rfl) : wpB M A (isTrue (.Compare l [op] [r] pos) env whole) Q E s := by
  rw [isTrue_Compare1, markedBehindIn_of_false hm]
  exact b_bind (b_mono h (fun a s₁ h₁ => b_bind (b_holding (b_mono h₁ (fun b s₂ h₂ => b_bind (b_standAt (b_bind (b_operate (b_mono h₂ (fun c s₃ h₃ => b_holding h₃) fun _ _ x => x))))) fun _ _ x => x))) fun _ _ x => x)
theorem b_isTrue_Not {x pos whole} {Q : Bool → Shared → Prop} (h : wpB M A (isTrue x env (eval x env)) (fun b s' => Q (!b) s') E s) :
    wpB M A (isTrue (.UnaryOp .Not x pos) env whole) Q E s := by
  have e : isTrue (.UnaryOp .Not x pos) env whole = (do return !(← isTrue x env (eval x env))) := rfl
  rw [e]
  exact b_bind (b_mono h (fun b s' h' => b_pure h') fun _ _ x => x)
theorem b_isTrue_And {x y pos whole} {Q : Bool → Shared → Prop} (h : wpB M A (isTrue x env (eval x env)) (fun b s' => if b = true then wpB M A (isTrue y env (eval y env)) Q E s' else Q false s') E s) :
    wpB M A (isTrue (.BoolOp .And [x, y] pos) env whole) Q E s := by
  have e : isTrue (.BoolOp .And [x, y] pos) env whole = (do
      match BoolOp.And, ← isTrue x env (eval x env) with
      | .And, false => pure false
      | .Or, true => pure true
      | _, _ => (do
        match BoolOp.And, ← isTrue y env (eval y env) with
        | .And, false => pure false
        | .Or, true => pure true
        | _, _ => pure true)) := rfl
  rw [e]
  refine b_bind (b_mono h (fun b s' h' => ?_) fun _ _ x => x)
  cases b with
  | false => exact b_pure h'
  | true => exact b_bind (b_mono h' (fun c s'' h'' => by cases c <;> exact b_pure h'') fun _ _ x => x)
theorem b_isTrue_Or {x y pos whole} {Q : Bool → Shared → Prop} (h : wpB M A (isTrue x env (eval x env)) (fun b s' => if b = true then Q true s' else wpB M A (isTrue y env (eval y env)) Q E s') E s) :
    wpB M A (isTrue (.BoolOp .Or [x, y] pos) env whole) Q E s := by
  have e : isTrue (.BoolOp .Or [x, y] pos) env whole = (do
      match BoolOp.Or, ← isTrue x env (eval x env) with
      | .And, false => pure false
      | .Or, true => pure true
      | _, _ => (do
        match BoolOp.Or, ← isTrue y env (eval y env) with
        | .And, false => pure false
        | .Or, true => pure true
        | _, _ => pure false)) := rfl
  rw [e]
  refine b_bind (b_mono h (fun b s' h' => ?_) fun _ _ x => x)
  cases b with
  | true => exact b_pure h'
  | false => exact b_bind (b_mono h' (fun c s'' h'' => by cases c <;> exact b_pure h'') fun _ _ x => x)
/-- a test that is a call (or a name): its value's truth -/
theorem b_isTrue_Call {f args kws pos whole} {Q : Bool → Shared → Prop} (h : wpB M A whole (fun v s' => wpB M A (truthy v) Q E s') E s) :
    wpB M A (isTrue (.Call f args kws pos) env whole) Q E s := by
  have e : isTrue (.Call f args kws pos) env whole = (do
      let v ← whole
      standAt (Expr.Call f args kws pos).pos
      holding [v] (truthy v)) := rfl
  rw [e]
  exact b_bind (b_mono h (fun v s' h' => b_bind (b_standAt (b_holding h'))) fun _ _ x => x)
theorem b_truthy_bool {b : Bool} {Q : Bool → Shared → Prop} (h : Q b s) : wpB M A (truthy (.bool b)) Q E s := fun _ _ _ _ => h
theorem b_IfExp {test body orelse pos} {Q : Value → Shared → Prop}
    (h : wpB M A (isTrue test env (eval test env)) (fun b s' => if b = true then wpB M A (eval body env) Q E s' else wpB M A (eval orelse env) Q E s') E s) :
    wpB M A (eval (.IfExp test body orelse pos) env) Q E s := by
  have e : eval (.IfExp test body orelse pos) env = (do if ← isTrue test env (eval test env) then eval body env else eval orelse env) := rfl
  rw [e]
  refine b_bind (b_mono h (fun b s' h' => ?_) fun _ _ x => x)
  cases b <;> exact h'
theorem b_Not {x pos} {Q : Value → Shared → Prop} (h : wpB M A (eval x env) (fun v s' => wpB M A (unaryOp .Not v) Q E s') E s) : wpB M A (eval (.UnaryOp .Not x pos) env) Q E s := by
  have e : eval (.UnaryOp .Not x pos) env = (do let v ← eval x env; standAt pos; holding [v] (unaryOp .Not v)) := rfl
  rw [e]
  exact b_bind (b_mono h (fun v s' h' => b_bind (b_standAt (b_holding h'))) fun _ _ x => x)
theorem b_Attribute {value attr pos} {Q : Value → Shared → Prop}
    (h : wpB M A (eval value env) (fun o s₁ => wpB M A (getAttr o attr true) (fun r s₂ => wpB M A (letTemporaryGo value o r) (fun _ => Q r) E s₂) E s₁) E s)
    (he : attributeBase value attr env (eval value env) = eval value env := by rfl) :
    wpB M A (eval (.Attribute value attr pos) env) Q E s := by
  have e : eval (.Attribute value attr pos) env = (do
      let o ← attributeBase value attr env (eval value env)
      standAt pos.atName
      let r ← holding [o] (getAttr o attr true)
      letTemporaryGo value o r
      pure r) := rfl
  rw [e, he]
  exact b_bind (b_mono h (fun o s₁ h₁ => b_bind (b_standAt (b_bind (b_holding (b_mono h₁ (fun r s₂ h₂ => b_bind (b_mono h₂ (fun _ _ q => b_pure q) fun _ _ x => x)) fun _ _ x => x))))) fun _ _ x => x)
/-- an attribute of a name -/
theorem b_AttributeN {x xpos attr pos} {Q : Value → Shared → Prop}
    (h : wpB M A (eval (.Name x xpos) env) (fun o s₁ => wpB M A (getAttr o attr true) Q E s₁) E s) :
    wpB M A (eval (.Attribute (.Name x xpos) attr pos) env) Q E s :=
  b_Attribute (b_mono h (fun o s₁ h₁ => b_mono h₁ (fun r s₂ h₂ => b_pure h₂) fun _ _ x => x) fun _ _ x => x)
theorem b_Subscript {value slice pos} {Q : Value → Shared → Prop}
    (h : wpB M A (eval value env) (fun o s₁ => wpB M A (eval slice env) (fun i s₂ => wpB M A (getitemInPython o) (fun b s₃ => wpB M A (subscripted slice b o i) (fun r s₄ => wpB M A (letTemporaryGo value o r) (fun _ => Q r) E s₄) E s₃) E s₂) E s₁) E s) :
    wpB M A (eval (.Subscript value slice pos) env) Q E s := by
  have e : eval (.Subscript value slice pos) env = (do
      let o ← eval value env
      let i ← holding [o] (eval slice env)
      standAt pos
      let r ← subscripted slice (← getitemInPython o) o i
      letTemporaryGo value o r
      pure r) := rfl
  rw [e]
  exact b_bind (b_mono h (fun o s₁ h₁ => b_bind (b_holding (b_mono h₁ (fun i s₂ h₂ => b_bind (b_standAt (b_bind (b_mono h₂ (fun b s₃ h₃ => b_bind (b_mono h₃ (fun r s₄ h₄ => b_bind (b_mono h₄ (fun _ _ q => b_pure q) fun _ _ x => x)) fun _ _ x => x)) fun _ _ x => x)))) fun _ _ x => x))) fun _ _ x => x)
theorem b_Slice {l u pos} {Q : Value → Shared → Prop}
    (h : wpB M A (valueOrNone (evalOpt l env)) (fun a s₁ => wpB M A (valueOrNone (evalOpt u env)) (fun b s₂ => wpB M A (newFields "slice" [a, b, .none]) Q E s₂) E s₁) E s) :
    wpB M A (eval (.Slice l u none pos) env) Q E s := by
  have e : eval (.Slice l u none pos) env = (do
      let l ← valueOrNone (evalOpt l env)
      let u ← holding [l] (valueOrNone (evalOpt u env))
      let s ← holding [l, u] (valueOrNone (evalOpt none env))
      newFields "slice" [l, u, s]) := rfl
  rw [e]
  exact b_bind (b_mono h (fun a s₁ h₁ => b_bind (b_holding (b_mono h₁ (fun b s₂ h₂ => b_bind (b_holding (b_pure h₂))) fun _ _ x => x))) fun _ _ x => x)
theorem b_part_none {Q : Value → Shared → Prop} (h : Q .none s) : wpB M A (valueOrNone (evalOpt none env)) Q E s := b_pure h
theorem b_part_some {e} {Q : Value → Shared → Prop} (h : wpB M A (eval e env) Q E s) : wpB M A (valueOrNone (evalOpt (some e) env)) Q E s := h

theorem b_spliced_nil {Q : List Value → Shared → Prop} (h : Q [] s) : wpB M A (spliced []) Q E s := b_pure h
theorem b_spliced_cons {x : Sem Value} {rest : List (Bool × Sem Value)} {Q : List Value → Shared → Prop}
    (h : wpB M A x (fun v s₁ => wpB M A (spliced rest) (fun vs s₂ => Q (v :: vs) s₂) E s₁) E s) : wpB M A (spliced ((false, x) :: rest)) Q E s := by
  have e : spliced ((false, x) :: rest) = (do
      let v ← x
      let here ← pure [v]
      return here ++ (← holding here (spliced rest))) := rfl
  rw [e]
  exact b_bind (b_mono h (fun v s₁ h₁ => b_bind (b_pure (b_bind (b_holding (b_mono h₁ (fun vs s₂ h₂ => b_pure h₂) fun _ _ x => x))))) fun _ _ x => x)
noncomputable def noStar : Expr → Bool
  | .Starred .. => false
  | _ => true
theorem b_args_nil {pos : Pos} {Q : List Value → Shared → Prop} (h : Q [] s) : wpB M A (spliced (backTo pos (starEach [] env))) Q E s := b_pure h
theorem b_args {pos : Pos} {e : Expr} {rest : List Expr} {Q : List Value → Shared → Prop}
    (h : wpB M A (eval e env) (fun v s₁ => wpB M A (spliced (backTo pos (starEach rest env))) (fun vs s₂ => Q (v :: vs) s₂) E s₁) E s) (hs : noStar e = true := by rfl) :
    wpB M A (spliced (backTo pos (starEach (e :: rest) env))) Q E s := by
  have e1 : starEach (e :: rest) env = (false, eval e env) :: starEach rest env := by cases e <;> first | rfl | cases hs
  rw [e1]
  exact b_spliced_cons h
theorem b_List {elts : List Expr} {pos : Pos} {Q : Value → Shared → Prop}
    (h : wpB M A (spliced (backTo pos (starEach elts env))) (fun vs s₁ => wpB M A (newList vs) Q E s₁) E s) : wpB M A (eval (.List elts pos) env) Q E s := by
  show wpB M A (do standAt pos; newList (← spliced (backTo pos (starEach elts env)))) Q E s
  exact b_bind (b_standAt (b_bind h))
theorem b_Tuple {elts : List Expr} {k : Nat} {pos : Pos} {Q : Value → Shared → Prop}
    (h : wpB M A (spliced (backTo pos (starEach elts env))) (fun vs s₁ => wpB M A (newTuple vs) Q E s₁) E s) : wpB M A (eval (.Tuple elts k pos) env) Q E s := by
  show wpB M A (do standAt pos; newTuple (← spliced (backTo pos (starEach elts env)))) Q E s
  exact b_bind (b_standAt (b_bind h))

/-! calls -/
theorem b_evalArgs {f : Value} {e : Expr} {rest : List Expr} {pos : Pos} {Q : Args → Shared → Prop} (hs : noStar e = true)
    (h : wpB M A (spliced (backTo pos (starEach (e :: rest) env))) (fun vs s₁ => Q ⟨vs, []⟩ s₁) E s) :
    wpB M A (evalArgs f true (backTo pos (starEach (e :: rest) env)) []) Q E s := by
  have e1 : starEach (e :: rest) env = (false, eval e env) :: starEach rest env := by cases e <;> first | rfl | cases hs
  rw [e1] at h ⊢
  unfold evalArgs
  show wpB M A (spliced (backTo pos ((false, eval e env) :: starEach rest env)) >>= _) Q E s
  refine b_bind (b_mono h (fun vs s₁ h₁ => ?_) fun _ _ x => x)
  refine b_holding ?_
  simp only [List.all_nil, if_true]
  exact b_bind (b_pure (b_bind (b_pure (b_pure h₁))))
theorem b_evalArgs0 {f : Value} {pos : Pos} {Q : Args → Shared → Prop} (h : Q ⟨[], []⟩ s) : wpB M A (evalArgs f true (backTo pos (starEach [] env)) []) Q E s := by
  unfold evalArgs
  show wpB M A (spliced [] >>= _) Q E s
  refine b_bind (b_pure (b_bind (b_pure ?_)))
  refine b_holding ?_
  simp only [List.all_nil, if_true]
  exact b_bind (b_pure (b_bind (b_pure (b_pure h))))

theorem b_callWith {f : Value} {first : List Value} {args : List (Bool × Sem Value)} {pos : Pos} {Q : Value → Shared → Prop} (hplain : (args.any (·.1) || false) = false)
    (h : wpB M A (evalArgs f true args []) (fun a s₁ => (∃ k, (k = Keeper.frame ∨ k = Keeper.machine ∨ k = Keeper.boundFrame) ∧ Looks M s₁.heap (keeperOf f) k) ∧ wpB M A (call f (first ++ a.pos) a.kw) Q E s₁) E s) : wpB M A (callWith pos f first args []) Q E s := by
  unfold callWith
  refine b_bind (b_holding (b_mono h (fun a s₁ h₁ => b_bind (b_standAt ?_)) fun _ _ x => x))
  obtain ⟨⟨k, hk', L⟩, h₁⟩ := h₁
  have hp : (args.any (·.1) || ([] : List (Option Str × Sem Value)).any (·.1.isNone)) = false := hplain
  simp only [hp]
  refine b_bind (of_any (L.here ?_))
  have tail : ∀ {t : Sem Value}, wpB M A t Q E s₁ → wpB M A (t >>= fun r => holding [r] point >>= fun _ => pure r) Q E s₁ :=
    fun ht => b_bind (b_mono ht (fun r s₂ hr => b_bind (b_holding (b_point (b_pure hr)))) fun _ _ x => x)
  have marked (mk : Value) : wpB M A (callMarked mk f (first ++ a.pos) a.kw) Q E s₁ := by unfold callMarked; exact b_keep h₁
  rcases hk' with rfl | rfl | rfl <;> dsimp only <;> first | exact tail h₁ | (split <;> first | exact tail h₁ | exact tail (marked _))

noncomputable def isAttr : Expr → Bool
  | .Attribute .. => true
  | _ => false
/-- a call of a name -/
theorem b_CallN {x xpos args pos} {Q : Value → Shared → Prop} (h : wpB M A (eval (.Name x xpos) env) (fun f s₁ => wpB M A (callWith pos f [] (backTo pos (starEach args env)) []) Q E s₁) E s) :
    wpB M A (eval (.Call (.Name x xpos) args [] pos) env) Q E s := by
  have e : eval (.Call (.Name x xpos) args [] pos) env = (do callWith pos (← eval (.Name x xpos) env) [] (backTo pos (starEach args env)) (backToKw pos (keywordEach [] env))) := rfl
  rw [e]
  exact b_bind h
/-- a call of a method -/
theorem b_CallM {o name apos pos args} {Q : Value → Shared → Prop}
    (h : wpB M A (eval o env) (fun ov s₁ => wpB M A (getMethod ov name (do return (← importBound o env).getD true)) (fun fx s₂ => wpB M A (methodCallPos true o env apos pos) (fun p s₃ => wpB M A (callWith p fx.1 fx.2 (backTo pos (starEach args env)) []) Q E s₃) E s₂) E s₁) E s)
    (he : attributeBase o name env (eval o env) = eval o env := by rfl) (hf : methodCallForm (args.length + 0) (backTo pos (starEach args env)) [] = true := by rfl) :
    wpB M A (eval (.Call (.Attribute o name apos) args [] pos) env) Q E s := by
  have e : eval (.Call (.Attribute o name apos) args [] pos) env = (do
      let ov ← attributeBase o name env (eval o env)
      standAt apos.atName
      methodCall o name apos pos env ov (args.length + 0) (backTo pos (starEach args env)) []) := rfl
  rw [e, he]
  refine b_bind (b_mono h (fun ov s₁ h₁ => b_bind (b_standAt ?_)) fun _ _ x => x)
  unfold methodCall calleeOf
  rw [hf]
  simp only [if_true]
  exact b_bind (b_holding (b_mono h₁ (fun fx s₂ h₂ => b_bind h₂) fun _ _ x => x))
end
end Mine
end

section
namespace Mine
open PySem PySem.Calls PyProof.Rows PySem.W

section
variable {prog : Program} {w : World} {A : Around} {E : Value → Shared → Prop} {s : Shared} {env : Env}

theorem codeB_func {body env} {Q : Value → Shared → Prop}
    (h : wpB (model prog w) (A.deeper env) (execs body env) (fun f s' => Q (match f with | .ret v => v | _ => .none) s') NoE s) :
    codeB (model prog w) A (.func body env) (Vl Q) s := by
  refine codeB_of_tree ?_
  show wpB _ (A.deeper env) (do point; match ← (execs body env).onRaise (leaving env) with | .ret v => ret v | _ => ret .none) _ _ s
  refine b_up (b_bind (b_point (b_bind (b_onRaise' (b_mono h (fun f s' h' => ?_) fun _ _ h' => h')))))
  cases f <;> exact b_pure h'

theorem codeB_call_function {R : Result → Shared → Prop} {a : Addr} {args : Args} {o : Obj} {fd : FuncData} {body : List Stmt} (hroom : A.depth < recursionLimit)
    (ho : s.heap.get? a = some o)
    (hd' : o.data = .func fd) (hco : fd.scope.isCoroutine = false) (hgen : fd.scope.isGenerator = false) (hbody : fd.body = .stmts body) (hcd : s.heap.CodeRec fd.code fd.qualname)
    (h : wpB (model prog w) A.in1 (bindArgs fd args) (fun binds s₁ =>
      wpB (model prog w) A.in1 (newFunctionEnv fd.scope fd.globals fd.closure binds (fd.qualname ++ ".<locals>.") (some a) fd.code none fd.builtins)
        (fun env s₂ => s₂.heap.NoLimit ∧ codeB (model prog w) A (.func body env) R s₂) (fun e s' => R (.error e) s') s₁) (fun e s' => R (.error e) s') s) :
    codeB (model prog w) A (.call (.ref a) args) R s := by
  refine codeB_of_tree ?_
  show wpB _ A.in1 (callAny (.ref a) args) _ _ s
  simp only [callAny]
  refine b_bind (of_any (wpAny_load ho ?_))
  obtain ⟨c, oc, vs, tq, hc, hoc, hdc, hq⟩ := hcd
  simp only [hd', callFunction, hco, hgen, hbody, hc]
  rw [hc] at h
  refine b_bind (m := field (.ref c) 1) (of_any (wpAny_field hoc hdc hq (b_bind (b_pure ?_))))
  exact b_bind (b_mono h (fun binds s₁ h₁ => b_bind (b_mono h₁ (fun env s₂ h₂ => b_bind (of_any (wpAny_enterFrame h₂.1 hroom
    (b_pure (And.intro rfl (And.intro rfl h₂.2)))))) fun _ _ h' => h')) fun _ _ h' => h')

/-- a call of a def of the text, none of its names a cell -/
theorem b_call_fn {a : Addr} {o : Obj} {fd : FuncData} {body : List Stmt} {args : Args} {binds : List (Str × Value)} {Q : Value → Shared → Prop}
    (hroom : A.depth < recursionLimit) (ho : s.heap.get? a = some o) (hdata : o.data = .func fd) (hlim : s.heap.NoLimit) (hcd : s.heap.CodeRec fd.code fd.qualname)
    (hbody : fd.body = .stmts body) (hbind : BindsTo s fd args binds)
    (hcell : ∀ x ∈ fd.scope.names, x.2 ≠ .cell) (hloc : ∀ x ∈ binds, fd.scope.names.lookup x.1 = some .local)
    (h : ∀ h₀, h₀.Ns s.heap.objs.size (fun x => binds.reverse.lookup x) → Heap.SameBut s.heap.objs.size (s.heap.push { cls := .type "frame", data := .dict #[] }) h₀ →
      wpB (model prog w) (A.deeper (callEnv fd s.heap.objs.size a)) (execs body (callEnv fd s.heap.objs.size a)) (fun f s' => Q (match f with | .ret v => v | _ => .none) s') NoE
        { s with heap := h₀, toks := s.toks + binds.length })
    (hco : fd.scope.isCoroutine = false) (hgen : fd.scope.isGenerator = false) (hk : fd.scope.kind = .function) :
    codeB (model prog w) A (.call (.ref a) args) (Vl Q) s := by
  refine codeB_call_function hroom ho hdata hco hgen hbody hcd (of_any (hbind _ _ _ _ ?_))
  exact of_any (wpAny_newFunctionEnv hcell hloc (fun h₀ hns₀ hsb₀ => ⟨hlim.fresh _ hsb₀, codeB_func (h h₀ hns₀ hsb₀)⟩) hk)

/-! loops -/
theorem codeB_block {stmts : List Stmt} {env : Env} {Q : Flow → Shared → Prop}
    (h : wpB (model prog w) A (execs stmts env) Q NoE s) : codeB (model prog w) A (.block stmts env) (Fl Q) s := by
  refine codeB_of_tree ?_
  show wpB _ _ (do return Fin.done (← (execs stmts env).onRaise (fun x => do noteFrame x env; theTreesLotGoes x))) _ _ s
  exact b_up (b_bind (b_onRaise' (b_mono h (fun f s' h' => b_pure h') fun _ _ h' => h')))

theorem codeB_whileLoop {test body orelse env} {Q : Flow → Shared → Prop} (I : Nat → Shared → Prop)
    (turn : ∀ n s, I n s →
      wpB (model prog w) A (isTrue test env (eval test env)) (fun b s₂ =>
        if b = true then wpB (model prog w) A (execs body env) (fun f s₃ => match f with
            | .next | .cont => ∃ m, m < n ∧ I m s₃
            | .brk => Q .next s₃
            | .ret v => Q (.ret v) s₃) NoE s₂
        else wpB (model prog w) A (execs orelse env) Q NoE s₂) NoE s)
    (n : Nat) (h : I n s) : codeB (model prog w) A (.whileLoop test body orelse env) (Fl Q) s := by
  refine codeB_loop' rfl rfl I (fun n s hI => ?_) n h
  show wpB _ A ((whileTurn test body orelse env).onRaise (fun x => do noteFrame x env; theTreesLotGoes x)) _ _ s
  refine b_up (b_onRaise' ?_)
  simp only [whileTurn]
  refine b_bind (b_mono (turn n s hI) (fun b s₂ h₂ => ?_) fun _ _ h' => h')
  cases b with
  | false =>
    simp only [Bool.false_eq_true, if_false] at h₂ ⊢
    exact b_bind (b_mono h₂ (fun f s₃ h₃ => b_pure h₃) fun _ _ h' => h')
  | true =>
    simp only [if_true] at h₂ ⊢
    refine b_bind (b_mono h₂ (fun f s₃ h₃ => ?_) fun _ _ h' => h')
    cases f with
    | next => exact b_pure (.inl ⟨rfl, h₃⟩)
    | cont => exact b_pure (.inl ⟨rfl, h₃⟩)
    | brk => exact b_pure h₃
    | ret v => exact b_pure h₃

theorem b_While {test body pos} {Q : Flow → Shared → Prop} (I : Nat → Shared → Prop) (n : Nat) (h : I n s)
    (turn : ∀ n s, I n s →
      wpB (model prog w) A (isTrue test env (eval test env)) (fun b s₂ =>
        if b = true then wpB (model prog w) A (execs body env) (fun f s₃ => match f with
            | .next | .cont => ∃ m, m < n ∧ I m s₃
            | .brk => Q .next s₃
            | .ret v => Q (.ret v) s₃) NoE s₂
        else Q .next s₂) NoE s) : wpB (model prog w) A (exec (.While test body [] pos) env) Q NoE s := by
  rw [exec_While]
  refine b_bind (b_standAt (b_runOwn (codeB_whileLoop I (fun n s hI => b_mono (turn n s hI) (fun b s₂ h₂ => ?_) fun _ _ x => x) n h)))
  cases b with
  | false => simp only [Bool.false_eq_true, if_false] at h₂ ⊢; exact b_execs_nil h₂
  | true => exact h₂

theorem codeB_forLoop {Q : Flow → Shared → Prop} {target it body orelse env} (I : Nat → Shared → Prop)
    (turn : ∀ n s, I n s → wpB (model prog w) A (pyNext it) (fun r s₁ => match r with
      | none => wpB (model prog w) A (execs orelse env) Q NoE s₁
      | some v => wpB (model prog w) A (assign target env v) (fun _ s₂ => wpB (model prog w) A (execs body env) (fun f s₃ => match f with
          | .next | .cont => ∃ m, m < n ∧ I m s₃
          | .brk => Q .next s₃
          | .ret v => Q (.ret v) s₃) NoE s₂) NoE s₁) NoE s)
    (n : Nat) (h : I n s) (ht : ∀ v, letOwnedTupleGo target it v = pure () := by intro _; rfl) : codeB (model prog w) A (.forLoop target it body orelse env) (Fl Q) s := by
  refine codeB_loop' rfl rfl I (fun n s hI => ?_) n h
  show wpB _ _ ((forTurn target it body orelse env).onRaise (fun x => do noteFrame x env; theTreesLotGoes x)) _ _ s
  refine b_up (b_onRaise' ?_)
  simp only [forTurn]
  refine b_bind (b_standAt (b_bind (b_onRaise' (b_mono (turn n s hI) (fun r s₁ h₁ => ?_) fun _ _ h' => h'))))
  cases r with
  | none => exact b_pure (.inr ⟨rfl, rfl, codeB_mono (codeB_block h₁) fun r s' hr => by cases r <;> exact hr⟩)
  | some v =>
    refine b_bind (b_of_eq (ht v) ?_)
    refine b_bind (b_mono h₁ (fun _ s₂ h₂ => b_bind (b_mono h₂ (fun f s₃ h₃ => ?_) fun _ _ h' => h')) fun _ _ h' => h')
    cases f with
    | next => exact b_pure (.inl ⟨rfl, h₃⟩)
    | cont => exact b_pure (.inl ⟨rfl, h₃⟩)
    | brk => exact b_pure h₃
    | ret v => exact b_pure h₃

theorem b_For {target iter body pos} {Q : Flow → Shared → Prop}
    (h : wpB (model prog w) A (eval iter env) (fun x s₁ => wpB (model prog w) A (pyIter x) (fun it s₂ =>
      codeB (model prog w) A (.forLoop target it body [] env) (Fl Q) s₂) NoE s₁) NoE s)
    (hs : ∀ x, foldedSetIterable iter env x = pure x := by intro _; rfl) :
    wpB (model prog w) A (exec (.For target iter body [] pos) env) Q NoE s := by
  rw [exec_For]
  exact b_bind (b_standAt (b_bind (b_mono h (fun x s₁ h₁ => b_bind (b_of_eq (hs x) (b_bind (b_standAt (b_bind (b_holding
    (b_mono h₁ (fun it s₂ h₂ => b_runOwn h₂) fun _ _ h' => h'))))))) fun _ _ h' => h')))

/-! built-ins -/
theorem codeB_call_builtin {id : String} {args : Args} {b : Builtin} {Q : Value → Shared → Prop} (hq : plainId id = true) (hc : calm (.builtin id args) = true) (hb : entryFor table id = some b)
    (h : wpB (model prog w) A.in1 (checkBuiltinCall id args) (fun _ s₁ => wpB (model prog w) A.in1 (b args)
      (fun fin s' => ∃ v, fin = .done (.ret v) ∧ Q v s') NoE s₁) NoE s) : codeB (model prog w) A (.call (.builtin id) args) (Vl Q) s := by
  refine codeB_of_tree ?_
  show wpB _ A.in1 (do checkBuiltinCall id args; again (.builtin id args)) _ _ s
  refine b_up (b_bind (b_mono h (fun _ s₁ h₁ => b_pure (And.intro (plainId_quiet hq args) (And.intro hc (codeB_of_tree ?_)))) fun _ _ h' => h'))
  rw [Around.under_plainId hq args]
  show wpB _ _ (match entryFor table id with | some b => b args | none => unsupported ((withoutEnding? id "#data").getD id)) _ _ s₁
  rw [hb]
  refine b_up (b_mono h₁ (fun fin s' h' => ?_) fun _ _ x => x)
  obtain ⟨v, rfl, hv⟩ := h'
  exact hv

theorem codeB_builtin {id : String} {args : Args} {b : Builtin} {R : Result → Shared → Prop} (hb : entryFor table id = some b)
    (h : wpB (model prog w) (A.under (.builtin id args)) (b args)
      (fun fin s' => match fin with | .done f => R (.ok f) s' | .again c' => c'.quiet = true ∧ calm c' = true ∧ codeB (model prog w) A c' R s') (fun e s' => R (.error e) s') s) :
    codeB (model prog w) A (.builtin id args) R s := by
  refine codeB_of_tree ?_
  show wpB _ _ (match entryFor table id with | some b => b args | none => unsupported ((withoutEnding? id "#data").getD id)) _ _ s
  rw [hb]; exact h

theorem b_call_entry {T : String} {name : Str} {id : String} {b : Builtin} {self : Value} {rest : List Value} {Q : Value → Shared → Prop} (h : Slot T name id) (hT : s.TypeIs self T)
    (hb : entryFor table id = some b)
    (hc : wpB (model prog w) A.in1 (b ⟨self :: rest, []⟩) (fun fin s' => ∃ v, fin = .done (.ret v) ∧ Q v s') NoE s)
    (hl : lenders.contains id = false) (ha : argsOk id ⟨self :: rest, []⟩) :
    wpB (model prog w) A (call (.builtin id) (self :: rest)) Q NoE s :=
  b_calls (codeB_call_builtin h.plain (show (!lenders.contains id) = true by rw [hl]; rfl) hb (of_any (h.check _ _ _ _ _ _ _ _ hT ha hc)))

theorem calm_not {id : String} {args : Args} (h : calm (.builtin id args) = true) : Builtin.Bytes.decodersThatHold.contains id = false := by
  have h : (!lenders.contains id) = true := h
  rw [Bool.not_eq_true'] at h
  cases q : Builtin.Bytes.decodersThatHold.contains id with
  | false => rfl
  | true =>
    have : lenders.contains id = true := List.contains_iff_mem.mpr (List.mem_append_right _ (List.contains_iff_mem.mp q))
    rw [this] at h; cases h
theorem calm_ne {id x : String} {args : Args} (h : calm (.builtin id args) = true) (hx : lenders.contains x = true) : id ≠ x := fun e => by
  subst e
  have h : (!lenders.contains id) = true := h
  rw [hx] at h; cases h

/-- nothing on a calm stack has lent a bytearray out -/
theorem b_exported {self : Value} {Q : Bool → Shared → Prop} {M : Model} (h : Q false s) : wpB M A (Builtin.Bytes.exported self) Q E s := fun Γ p _ hl => by
  have key : ∀ (f : Code × Pos → Bool), (∀ x : Code × Pos, calm x.1 = true → f x = false) → ((Γ.code, p) :: Γ.below).any f = false := by
    intro f hf
    rw [List.any_eq_false]
    intro x hx
    rw [Bool.not_eq_true]
    rcases List.mem_cons.mp hx with rfl | hx
    · exact hf _ hl.here
    · exact hf _ (hl.below _ hx)
  show Q (((Γ.code, p) :: Γ.below).any _) s
  rw [key _ ?_]
  · exact h
  · rintro ⟨c, q⟩ hc
    dsimp only at hc ⊢
    cases c with
    | builtin id args =>
      split
      all_goals (rename_i he; first
        | (injection he with he1 he2; injection he1 with he3 he4; subst he3; exfalso; exact calm_ne hc (by decide +kernel) rfl)
        | (injection he with he1 he2; injection he1 with he3 he4; subst he3; rw [calm_not hc, Bool.and_false])
        | rfl)
    | _ => rfl
end
end Mine
end

section
namespace Mine
open PySem PySem.Calls PyProof.Rows PySem.W

/-! the ledger: what lies at which address, told by a property of the object -/
abbrev Item := Addr × (Obj → Prop)

structure Own (base h : Heap) (l : List Item) : Prop where
  stay : ∀ b o, base.get? b = some o → h.get? b = some o
  lowH : base.objs.size ≤ h.objs.size
  get : ∀ p ∈ l, ∃ o, h.get? p.1 = some o ∧ p.2 o
  new : ∀ p ∈ l, base.objs.size ≤ p.1
  nd : (l.map (·.1)).Nodup

structure Step (h h' : Heap) (l l' : List Item) : Prop where
  keep : ∀ b o, h.get? b = some o → b ∉ l.map (·.1) → h'.get? b = some o
  back : ∀ a ∈ l'.map (·.1), a ∈ l.map (·.1) ∨ h.objs.size ≤ a
  size : h.objs.size ≤ h'.objs.size

/-- inside a call: the frame `L` with its locals `m`, the ledger `l`; the call began at `h₀` with `l₀` -/
structure Led (base h₀ : Heap) (l₀ : List Item) (L : Addr) (h : Heap) (m : Str → Option Value) (l : List Item) : Prop where
  ns : h.Ns L m
  low : base.objs.size ≤ h₀.objs.size
  up : h₀.objs.size ≤ L
  own : Own base h l
  off : L ∉ l.map (·.1)
  step : Step h₀ h l₀ l

section
variable {base h₀ h h' : Heap} {l₀ l l' : List Item} {L : Addr} {m m' : Str → Option Value}

theorem Own.lt (O : Own base h l) {a : Addr} (ha : a ∈ l.map (·.1)) : a < h.objs.size := by
  obtain ⟨p, hp, rfl⟩ := List.mem_map.mp ha
  obtain ⟨o, ho, _⟩ := O.get p hp
  exact Heap.lt_size ho
theorem Own.at (O : Own base h l) {i : Nat} {a : Addr} {P : Obj → Prop} (hi : l[i]? = some (a, P)) : ∃ o, h.get? a = some o ∧ P o := O.get _ (List.mem_of_getElem? hi)
theorem Led.at (D : Led base h₀ l₀ L h m l) {i : Nat} {a : Addr} {P : Obj → Prop} (hi : l[i]? = some (a, P)) : ∃ o, h.get? a = some o ∧ P o := D.own.at hi
theorem Led.stay (D : Led base h₀ l₀ L h m l) : ∀ b o, base.get? b = some o → h.get? b = some o := D.own.stay
theorem Led.fr (D : Led base h₀ l₀ L h m l) : Fr base L h m := ⟨D.ns, D.stay, Nat.le_trans D.low D.up⟩
theorem Own.notBase (O : Own base h l) {a : Addr} (ha : a ∈ l.map (·.1)) {o : Obj} (e : base.get? a = some o) : False := by
  obtain ⟨p, hp, rfl⟩ := List.mem_map.mp ha
  exact absurd (Heap.lt_size e) (Nat.not_lt.mpr (O.new p hp))

theorem Led.sizeLe (D : Led base h₀ l₀ L h m l) : h₀.objs.size ≤ h.objs.size := Nat.le_of_lt (Nat.lt_of_le_of_lt D.up D.ns.lt)

/-- a local name is stored -/
theorem Led.store (D : Led base h₀ l₀ L h m l) (hn : h'.Ns L m') (hs : Heap.SameBut L h h') : Led base h₀ l₀ L h' m' l := by
  refine ⟨hn, D.low, D.up, ⟨fun b o e => ?_, by rw [hs.1]; exact D.own.lowH, fun p hp => ?_, D.own.new, D.own.nd⟩, D.off, ⟨fun b o e hb => ?_, D.step.back, ?_⟩⟩
  · refine (hs.2 b fun q => ?_).trans (D.stay b o e)
    subst q
    exact absurd (Heap.lt_size e) (Nat.not_lt.mpr (Nat.le_trans D.low D.up))
  · obtain ⟨o, ho, hP⟩ := D.own.get p hp
    exact ⟨o, (hs.2 _ fun q => D.off (q ▸ List.mem_map_of_mem hp)).trans ho, hP⟩
  · refine (hs.2 b fun q => ?_).trans (D.step.keep b o e hb)
    subst q
    exact absurd (Heap.lt_size e) (Nat.not_lt.mpr D.up)
  · exact Nat.le_of_lt (Nat.lt_of_le_of_lt D.up hn.lt)

theorem map_fst_set (l : List Item) (i : Nat) (a : Addr) (P P' : Obj → Prop) (hi : l[i]? = some (a, P)) : (l.set i (a, P')).map (·.1) = l.map (·.1) := by
  rw [List.map_set]
  apply List.ext_getElem?
  intro j
  rw [List.getElem?_set]
  split
  · rename_i e
    subst e
    split
    · rw [List.getElem?_map, hi]; rfl
    · rename_i q
      rw [List.getElem?_eq_none (Nat.not_lt.mp q)]
  · rfl

/-- an object of the ledger is changed -/
theorem Led.upd (D : Led base h₀ l₀ L h m l) {i : Nat} {a : Addr} {P P' : Obj → Prop} {o' : Obj} (hi : l[i]? = some (a, P)) (hs : Heap.SameBut a h h') (ho : h'.get? a = some o') (hP : P' o') :
    Led base h₀ l₀ L h' m (l.set i (a, P')) := by
  have hmem : a ∈ l.map (·.1) := List.mem_map.mpr ⟨_, List.mem_of_getElem? hi, rfl⟩
  have hmap := map_fst_set l i a P P' hi
  refine ⟨D.ns.sameBut hs fun q => D.off (q ▸ hmem), D.low, D.up, ⟨fun b o e => ?_, by rw [hs.1]; exact D.own.lowH, fun p hp => ?_, fun p hp => ?_, hmap ▸ D.own.nd⟩, hmap ▸ D.off, ⟨fun b o e hb => ?_, hmap ▸ D.step.back, ?_⟩⟩
  · refine (hs.2 b fun q => ?_).trans (D.stay b o e)
    subst q
    exact D.own.notBase hmem e
  · obtain ⟨j, hj⟩ := List.mem_iff_getElem?.mp hp
    rw [List.getElem?_set] at hj
    split at hj
    · split at hj
      · cases hj; exact ⟨o', ho, hP⟩
      · cases hj
    · rename_i hne
      obtain ⟨o, ho2, hP2⟩ := D.own.get p (List.mem_of_getElem? hj)
      refine ⟨o, (hs.2 _ fun q => hne ?_).trans ho2, hP2⟩
      have nd := D.own.nd
      have h1 : (l.map (·.1))[i]? = some a := by rw [List.getElem?_map, hi]; rfl
      have h2 : (l.map (·.1))[j]? = some a := by rw [List.getElem?_map, hj]; exact congrArg some q
      have hil : i < (l.map (·.1)).length := (List.getElem?_eq_some_iff.mp h1).1
      exact (List.getElem?_inj hil nd).mp (h1.trans h2.symm)
  · have : p.1 ∈ (l.set i (a, P')).map (·.1) := List.mem_map_of_mem hp
    rw [hmap] at this
    obtain ⟨q, hq, e⟩ := List.mem_map.mp this
    exact e ▸ D.own.new q hq
  · by_cases q : b = a
    · subst q
      rcases D.step.back b hmem with z | z
      · exact absurd z hb
      · exact absurd (Heap.lt_size e) (Nat.not_lt.mpr z)
    · exact (hs.2 b q).trans (D.step.keep b o e hb)
  · rw [hs.1]; exact D.sizeLe

/-- the heap has grown -/
theorem Led.grow (D : Led base h₀ l₀ L h m l) (k : ∀ b o, h.get? b = some o → h'.get? b = some o) : Led base h₀ l₀ L h' m l := by
  have hn := D.ns.keeps k
  refine ⟨hn, D.low, D.up, ⟨fun b o e => k b o (D.stay b o e), Nat.le_trans (Nat.le_trans D.low D.up) (Nat.le_of_lt hn.lt), fun p hp => ?_, D.own.new, D.own.nd⟩, D.off, ⟨fun b o e hb => k b o (D.step.keep b o e hb), D.step.back, ?_⟩⟩
  · obtain ⟨o, ho, hP⟩ := D.own.get p hp
    exact ⟨o, k _ _ ho, hP⟩
  · exact Nat.le_of_lt (Nat.lt_of_le_of_lt D.up hn.lt)

/-- a new object -/
theorem Led.push (D : Led base h₀ l₀ L h m l) (o : Obj) {P : Obj → Prop} (hP : P o) (hf : o.isFreed = false := by rfl) : Led base h₀ l₀ L (h.push o) m ((h.objs.size, P) :: l) := by
  have D' := D.grow (h' := h.push o) fun b o' e => Heap.get?_push_of_some o e
  refine ⟨D'.ns, D.low, D.up, ⟨D'.stay, D'.own.lowH, fun p hp => ?_, fun p hp => ?_, ?_⟩, ?_, ⟨D'.step.keep, fun a ha => ?_, D'.step.size⟩⟩
  · rcases List.mem_cons.mp hp with rfl | hp
    · exact ⟨o, Heap.get?_push_size _ hf, hP⟩
    · exact D'.own.get p hp
  · rcases List.mem_cons.mp hp with rfl | hp
    · exact Nat.le_trans D.low D.sizeLe
    · exact D.own.new p hp
  · rw [List.map_cons, List.nodup_cons]
    exact ⟨fun q => absurd (D.own.lt q) (Nat.lt_irrefl _), D.own.nd⟩
  · rw [List.map_cons, List.mem_cons]
    rintro (q | q)
    · exact absurd D.ns.lt (q ▸ Nat.lt_irrefl _)
    · exact D.off q
  · rw [List.map_cons, List.mem_cons] at ha
    rcases ha with rfl | ha
    · exact .inr D.sizeLe
    · exact D.step.back a ha

/-- the head of the ledger is let go, and with it what it says -/
theorem Led.drop1 {p : Item} (D : Led base h₀ l₀ L h m (p :: l)) : Led base h₀ l₀ L h m l :=
  ⟨D.ns, D.low, D.up, ⟨D.stay, D.own.lowH, fun q hq => D.own.get q (.tail _ hq), fun q hq => D.own.new q (.tail _ hq), (List.nodup_cons.mp (List.map_cons ▸ D.own.nd)).2⟩, fun q => D.off (List.mem_cons_of_mem _ q),
    ⟨D.step.keep, fun a ha => D.step.back a (List.mem_cons_of_mem _ ha), D.step.size⟩⟩

/-- the head object may have changed: it is let go -/
theorem Led.extBut {p : Item} (D : Led base h₀ l₀ L h m (p :: l)) (hs : Heap.ExtBut p.1 h h') : Led base h₀ l₀ L h' m l := by
  have nd := List.nodup_cons.mp (List.map_cons ▸ D.own.nd)
  have hL : L ≠ p.1 := fun q => D.off (by rw [List.map_cons, q]; exact List.mem_cons_self ..)
  have hn := D.ns.extBut hs hL
  refine ⟨hn, D.low, D.up, ⟨fun b o e => hs b o (fun q => ?_) (D.stay b o e), Nat.le_trans (Nat.le_trans D.low D.up) (Nat.le_of_lt hn.lt), fun q hq => ?_, fun q hq => D.own.new q (.tail _ hq), nd.2⟩, fun q => D.off (List.mem_cons_of_mem _ q),
    ⟨fun b o e hb => hs b o (fun q => ?_) (D.step.keep b o e hb), fun a ha => D.step.back a (List.mem_cons_of_mem _ ha), Nat.le_of_lt (Nat.lt_of_le_of_lt D.up hn.lt)⟩⟩
  · exact D.own.notBase (by rw [List.map_cons, q]; exact List.mem_cons_self ..) e
  · obtain ⟨o, ho, hP⟩ := D.own.get q (.tail _ hq)
    exact ⟨o, hs _ _ (fun z => nd.1 (z ▸ List.mem_map_of_mem hq)) ho, hP⟩
  · rcases D.step.back p.1 (by rw [List.map_cons]; exact List.mem_cons_self ..) with z | z
    · exact hb (q ▸ z)
    · exact absurd (Heap.lt_size e) (Nat.not_lt.mpr (q ▸ z))

theorem Own.pick (O : Own base h l) (idx : List Nat) (hn : idx.Nodup) : Own base h (idx.filterMap (l[·]?)) := by
  refine ⟨O.stay, O.lowH, fun p hp => ?_, fun p hp => ?_, ?_⟩
  · obtain ⟨i, _, hi⟩ := List.mem_filterMap.mp hp
    exact O.get p (List.mem_of_getElem? hi)
  · obtain ⟨i, _, hi⟩ := List.mem_filterMap.mp hp
    exact O.new p (List.mem_of_getElem? hi)
  · induction idx with
    | nil => exact List.nodup_nil
    | cons i r ih =>
      obtain ⟨h1, h2⟩ := List.nodup_cons.mp hn
      rw [List.filterMap_cons]
      split
      · exact ih h2
      · rename_i p hp
        rw [List.map_cons, List.nodup_cons]
        refine ⟨fun q => ?_, ih h2⟩
        obtain ⟨p', hp', e⟩ := List.mem_map.mp q
        obtain ⟨j, hj, hj'⟩ := List.mem_filterMap.mp hp'
        have h1' : (l.map (·.1))[i]? = some p.1 := by rw [List.getElem?_map, hp]; rfl
        have h2' : (l.map (·.1))[j]? = some p.1 := by rw [List.getElem?_map, hj']; exact congrArg some e
        have : i = j := (List.getElem?_inj (List.getElem?_eq_some_iff.mp h1').1 O.nd).mp (h1'.trans h2'.symm)
        exact h1 (this ▸ hj)
theorem mem_pick {idx : List Nat} {a : Addr} (ha : a ∈ (idx.filterMap (l[·]?)).map (·.1)) : a ∈ l.map (·.1) := by
  obtain ⟨p, hp, rfl⟩ := List.mem_map.mp ha
  obtain ⟨i, _, hi⟩ := List.mem_filterMap.mp hp
  exact List.mem_map_of_mem (List.mem_of_getElem? hi)
/-- the ledger in another order, or some of it -/
theorem Led.pick (D : Led base h₀ l₀ L h m l) (idx : List Nat) (hn : idx.Nodup := by decide) : Led base h₀ l₀ L h m (idx.filterMap (l[·]?)) :=
  ⟨D.ns, D.low, D.up, D.own.pick idx hn, fun q => D.off (mem_pick q), ⟨D.step.keep, fun a ha => D.step.back a (mem_pick ha), D.step.size⟩⟩

/-- what one knows of an object is said in other words -/
theorem Led.weaken (D : Led base h₀ l₀ L h m l) (l' : List Item) (hf : l'.map (·.1) = l.map (·.1)) (hp : ∀ p ∈ l', ∃ o, h.get? p.1 = some o ∧ p.2 o) : Led base h₀ l₀ L h m l' :=
  ⟨D.ns, D.low, D.up, ⟨D.stay, D.own.lowH, hp, fun p hq => by
    have : p.1 ∈ l'.map (·.1) := List.mem_map_of_mem hq
    rw [hf] at this
    obtain ⟨q, hq, e⟩ := List.mem_map.mp this
    exact e ▸ D.own.new q hq, hf ▸ D.own.nd⟩, hf ▸ D.off, ⟨D.step.keep, hf ▸ D.step.back, D.step.size⟩⟩

/-- behind a call that had the ledger's first part -/
theorem Led.call {fp fp' rest : List Item} (D : Led base h₀ l₀ L h m (fp ++ rest)) (O : Own base h' fp') (S : Step h h' fp fp') : Led base h₀ l₀ L h' m (fp' ++ rest) := by
  have nd := D.own.nd
  rw [List.map_append, List.nodup_append] at nd
  obtain ⟨n1, n2, n3⟩ := nd
  have off := D.off
  rw [List.map_append, List.mem_append, not_or] at off
  have hn : h'.Ns L m := by
    obtain ⟨o, es, ep, ho, r⟩ := D.ns
    exact ⟨o, es, ep, S.keep _ _ ho off.1, r⟩
  have gr : ∀ p ∈ rest, ∃ o, h'.get? p.1 = some o ∧ p.2 o := fun p hp => by
    obtain ⟨o, ho, hP⟩ := D.own.get p (List.mem_append_right _ hp)
    exact ⟨o, S.keep _ _ ho fun q => n3 _ q _ (List.mem_map_of_mem hp) rfl, hP⟩
  have lt : ∀ a ∈ rest.map (·.1), a < h.objs.size := fun a ha => D.own.lt (by rw [List.map_append]; exact List.mem_append_right _ ha)
  refine ⟨hn, D.low, D.up, ⟨fun b o e => S.keep _ _ (D.stay b o e) fun q => D.own.notBase (by rw [List.map_append]; exact List.mem_append_left _ q) e, O.lowH, fun p hp => ?_, fun p hp => ?_, ?_⟩, ?_, ⟨fun b o e hb => ?_, fun a ha => ?_, ?_⟩⟩
  · rcases List.mem_append.mp hp with hp | hp
    · exact O.get p hp
    · exact gr p hp
  · rcases List.mem_append.mp hp with hp | hp
    · exact O.new p hp
    · exact D.own.new p (List.mem_append_right _ hp)
  · rw [List.map_append, List.nodup_append]
    refine ⟨O.nd, n2, fun a ha b hb e => ?_⟩
    subst e
    rcases S.back a ha with z | z
    · exact n3 a z a hb rfl
    · exact absurd (lt a hb) (Nat.not_lt.mpr z)
  · rw [List.map_append, List.mem_append]
    rintro (q | q)
    · rcases S.back L q with z | z
      · exact off.1 z
      · exact absurd D.ns.lt (Nat.not_lt.mpr z)
    · exact off.2 q
  · refine S.keep b o (D.step.keep b o e hb) fun q => ?_
    rcases D.step.back b (by rw [List.map_append]; exact List.mem_append_left _ q) with z | z
    · exact hb z
    · exact absurd (Heap.lt_size e) (Nat.not_lt.mpr z)
  · rw [List.map_append, List.mem_append] at ha
    rcases ha with ha | ha
    · rcases S.back a ha with z | z
      · exact D.step.back a (by rw [List.map_append]; exact List.mem_append_left _ z)
      · exact .inr (Nat.le_trans D.sizeLe z)
    · exact D.step.back a (by rw [List.map_append]; exact List.mem_append_right _ ha)
  · exact Nat.le_of_lt (Nat.lt_of_le_of_lt D.up hn.lt)

/-- a call begins -/
theorem Led.enter {h₁ : Heap} {o : Obj} (O : Own base h l) (hn : h₁.Ns h.objs.size m) (hs : Heap.SameBut h.objs.size (h.push o) h₁) :
    Led base h l h.objs.size h₁ m l := by
  have k : ∀ b x, h.get? b = some x → h₁.get? b = some x := fun b x e => (hs.2 b (Nat.ne_of_lt (Heap.lt_size e))).trans (Heap.get?_push_of_some _ e)
  refine ⟨hn, O.lowH, Nat.le_refl _, ⟨fun b x e => k _ _ (O.stay b x e), Nat.le_trans O.lowH (Nat.le_of_lt hn.lt), fun p hp => ?_, O.new, O.nd⟩, fun q => absurd (O.lt q) (Nat.lt_irrefl _), ⟨fun b x e _ => k b x e, fun a ha => .inl ha, Nat.le_of_lt hn.lt⟩⟩
  obtain ⟨x, hx, hP⟩ := O.get p hp
  exact ⟨x, k _ _ hx, hP⟩
end
end Mine
end

section
/-! the rules of a bytearray -/
namespace Mine
open PySem PySem.Calls PyProof.Rows PySem.W Builtin

noncomputable def baP (b : Array UInt8) : Obj → Prop := fun o => o.cls = .type "bytearray" ∧ o.dict = none ∧ o.data = .bytearray b 0

theorem slot_ba_len : Slot "bytearray" "__len__" "bytearray.__len__" :=
  .of (owner := "bytearray") (n := "__len__") (by rw [typeLookup_type, builtinLookup_eq_fast]; kernel_rfl) (by decide +kernel) (by decide +kernel) (by decide +kernel)
    (by first | exact .inl (by decide +kernel) | exact .inr (by decide +kernel)) (by rw [isSubtype_type]; kernel_rfl)
theorem slot_ba_getitem : Slot "bytearray" "__getitem__" "bytearray.__getitem__" :=
  .of (owner := "bytearray") (n := "__getitem__") (by rw [typeLookup_type, builtinLookup_eq_fast]; kernel_rfl) (by decide +kernel) (by decide +kernel) (by decide +kernel)
    (by first | exact .inl (by decide +kernel) | exact .inr (by decide +kernel)) (by rw [isSubtype_type]; kernel_rfl)
theorem slot_ba_append : Slot "bytearray" "append" "bytearray.append" :=
  .of (owner := "bytearray") (n := "append") (by rw [typeLookup_type, builtinLookup_eq_fast]; kernel_rfl) (by decide +kernel) (by decide +kernel) (by decide +kernel)
    (by first | exact .inl (by decide +kernel) | exact .inr (by decide +kernel)) (by rw [isSubtype_type]; kernel_rfl)
theorem slot_ba_extend : Slot "bytearray" "extend" "bytearray.extend" :=
  .of (owner := "bytearray") (n := "extend") (by rw [typeLookup_type, builtinLookup_eq_fast]; kernel_rfl) (by decide +kernel) (by decide +kernel) (by decide +kernel)
    (by first | exact .inl (by decide +kernel) | exact .inr (by decide +kernel)) (by rw [isSubtype_type]; kernel_rfl)
theorem slot_ba_init : Slot "bytearray" "__init__" "bytearray.__init__" :=
  .of (owner := "bytearray") (n := "__init__") (by rw [typeLookup_type, builtinLookup_eq_fast]; kernel_rfl) (by decide +kernel) (by decide +kernel) (by decide +kernel)
    (by first | exact .inl (by decide +kernel) | exact .inr (by decide +kernel)) (by rw [isSubtype_type]; kernel_rfl)
theorem entry_ba_len : entryFor table "bytearray.__len__" = some Builtin.«bytearray.__len__» := by first | exact entryFor_of_fast (by kernel_rfl) | exact entryFor_of_tree (by kernel_rfl)
theorem entry_ba_getitem : entryFor table "bytearray.__getitem__" = some Builtin.«bytearray.__getitem__» := by first | exact entryFor_of_fast (by kernel_rfl) | exact entryFor_of_tree (by kernel_rfl)
theorem entry_ba_append : entryFor table "bytearray.append" = some Builtin.«bytearray.append» := by first | exact entryFor_of_fast (by kernel_rfl) | exact entryFor_of_tree (by kernel_rfl)
theorem entry_ba_extend : entryFor table "bytearray.extend" = some Builtin.«bytearray.extend» := by first | exact entryFor_of_fast (by kernel_rfl) | exact entryFor_of_tree (by kernel_rfl)
theorem entry_ba_init : entryFor table "bytearray.__init__" = some Builtin.«bytearray.__init__» := by first | exact entryFor_of_fast (by kernel_rfl) | exact entryFor_of_tree (by kernel_rfl)
theorem args_ba_len (a : Value) : argsOk "bytearray.__len__" ⟨[a], []⟩ := by unfold argsOk; kernel_rfl
theorem args_ba_getitem (a b : Value) : argsOk "bytearray.__getitem__" ⟨[a, b], []⟩ := by unfold argsOk; kernel_rfl
theorem args_ba_append (a b : Value) : argsOk "bytearray.append" ⟨[a, b], []⟩ := by unfold argsOk; kernel_rfl
theorem args_ba_extend (a b : Value) : argsOk "bytearray.extend" ⟨[a, b], []⟩ := by unfold argsOk; kernel_rfl
theorem args_ba_init (a : Value) : argsOk "bytearray.__init__" ⟨[a], []⟩ := by unfold argsOk; kernel_rfl
theorem type_ba_append : typeOf (.builtin "bytearray.append") = pure (.type "method_descriptor") := by show builtinType _ = _; rw [builtinType_eq_fast]; kernel_rfl
theorem type_ba_extend : typeOf (.builtin "bytearray.extend") = pure (.type "method_descriptor") := by show builtinType _ = _; rw [builtinType_eq_fast]; kernel_rfl
theorem plainAttrs_ba : PlainAttrs "bytearray" :=
  ⟨⟨"bytearray.__getattribute__", by rw [typeLookup_type, builtinLookup_eq_fast]; kernel_rfl, by decide +kernel⟩, by rw [typeLookup_type, builtinLookup_eq_fast]; kernel_rfl⟩
theorem ba_look_buffer : typeLookup (.type "bytearray") "__buffer__" = pure (some (.builtin "bytearray.__buffer__")) := by rw [typeLookup_type, builtinLookup_eq_fast]; kernel_rfl
theorem ba_look_release : typeLookup (.type "bytearray") "__release_buffer__" = pure (some (.builtin "bytearray.__release_buffer__")) := by rw [typeLookup_type, builtinLookup_eq_fast]; kernel_rfl
theorem ba_no_bytes : typeLookup (.type "bytearray") "__bytes__" = pure none := by rw [typeLookup_type, builtinLookup_eq_fast]; kernel_rfl
theorem ba_no_index : typeLookup (.type "bytearray") "__index__" = pure none := by rw [typeLookup_type, builtinLookup_eq_fast]; kernel_rfl
theorem ba_mro : mroOf (.type "bytearray") = pure [.type "bytearray", .type "object"] := by rw [mroOf_type]; kernel_rfl
theorem ba_lookup_new : typeLookup (.type "bytearray") "__new__" = pure (some (.builtin "bytearray.__new__")) := by rw [typeLookup_type, builtinLookup_eq_fast]; kernel_rfl
theorem ba_called : TypeCalled "bytearray" "bytearray.__new__" "bytearray.__init__" :=
  ⟨by decide +kernel, by decide +kernel, ⟨_, _, ba_mro⟩, madeBy_type ba_mro ba_lookup_new (by decide +kernel), by decide +kernel, PySem.F.isi_self_bytearray, slot_ba_init⟩
theorem ba_typeCall : checkTypeCall "bytearray" ⟨[], []⟩ = pure () := by kernel_rfl
theorem ba_newCall : checkBuiltinCall "bytearray.__new__" ⟨[.type "bytearray"], []⟩ = pure () := by kernel_rfl
theorem ba_entry_new : entryFor table "bytearray.__new__" = some Builtin.«list.__new__» := entryFor_alias (id' := "list.__new__") (by kernel_rfl) rfl (by decide +kernel) (by kernel_rfl)
theorem ba_plain_new : plainId "bytearray.__new__" = true := by decide +kernel
set_option maxRecDepth 1000000 in
set_option maxHeartbeats 4000000 in
theorem owner_ba_new : ("bytearray.__new__".splitOn ".__new__").headD "" = "bytearray" := by simp +decide [String.splitOn, String.splitOnAux]
theorem ba_bind : Builtin.Bytes.bindOptional "bytearray.__init__" "bytearray" ["source", "encoding", "errors"] [] [] = pure [none, none, none] := by kernel_rfl

section
variable {prog : Program} {w : World} {A : Around} {E : Value → Shared → Prop} {s : Shared} {a : Addr} {b : Array UInt8} {o : Obj} {M : Model}

theorem baP.typeIs (ho : s.heap.get? a = some o) (hP : baP b o) : s.TypeIs (.ref a) "bytearray" := ⟨o, ho, hP.1⟩

theorem ba_payload {Q : Array UInt8 → Shared → Prop} (ho : s.heap.get? a = some o) (hP : baP b o) (h : Q b s) : wpAny M A (Bytes.payload (.ref a)) Q E s := by
  unfold Bytes.payload Bytes.payload?
  refine wpAny_bind (wpAny_bind (wpAny_load ho ?_))
  rw [hP.2.2]
  exact wpAny_pure (wpAny_pure h)

theorem ba_len_of {Q : Value → Shared → Prop} (ho : s.heap.get? a = some o) (hP : baP b o) (hfit : b.size ≤ 1000000) (h : Q (.int b.size (s.toks + 1)) { s with toks := s.toks + 1 + 1 }) :
    wpAny (model prog w) A (call (.builtin "len") [.ref a]) Q E s := by
  refine call_function_entry kind_len plain_len entry_len (args_len1 _) ?_
  unfold Builtin.«len»
  refine wpAny_bind (m := oneArg "len" _) (wpAny_pure ?_)
  refine wpAny_bind (m := callSpecial? (.ref a) (Str.ofString "__len__")) (wpAny_callSpecial?_slot (name := Str.ofString "__len__") (baP.typeIs ho hP) slot_ba_len
    (wpAny_call_entry slot_ba_len (baP.typeIs ho hP) entry_ba_len ?_ (args_ba_len _)))
  show wpAny _ _ (Bytes.payload (.ref a) >>= fun b => retInt b.size) _ _ s
  refine wpAny_bind (ba_payload ho hP ?_)
  refine wpAny_bind (wpAny_mkInt (wpAny_pure ⟨_, rfl, ?_⟩))
  refine wpAny_bind (wpAny_holding (wpAny_pure ?_))
  refine wpAny_bind (wpAny_letGo ?_)
  show wpAny _ _ (if ((b.size : Nat) : Int) < 0 then _ else _) _ _ _
  rw [if_neg (by omega)]
  show wpAny _ _ (if ((b.size : Nat) : Int) ≥ 2 ^ 63 then _ else _) _ _ _
  rw [if_neg (by omega)]
  exact wpAny_bind (wpAny_mkInt (wpAny_pure ⟨_, rfl, h⟩))

theorem ba_item_of {i : Int} {u : Tok} {c : UInt8} {Q : Value → Shared → Prop} (ho : s.heap.get? a = some o) (hP : baP b o) (h0 : 0 ≤ i) (hfit : b.size ≤ 1000000) (hx : b[i.toNat]? = some c)
    (h : Q (.int c.toNat s.toks) { s with toks := s.toks + 1 }) : wpAny (model prog w) A (getItem (.ref a) (.int i u)) Q E s := by
  have hlt : i.toNat < b.size := (Array.getElem?_eq_some_iff.mp hx).1
  refine wpAny_getItem_slot (baP.typeIs ho hP) (by decide) slot_ba_getitem (wpAny_call_entry slot_ba_getitem (baP.typeIs ho hP) entry_ba_getitem ?_ (args_ba_getitem _ _))
  show wpAny _ _ (Bytes.subscript? (.int i u) >>= fun r => _) _ _ s
  refine wpAny_bind ?_
  unfold Bytes.subscript?
  refine wpAny_bind (wpAny_specialOf (typeIs_int s i u) F.slot_int_index.lookup ?_)
  show wpAny _ _ (if (!Bytes.fitsIndex i) = true then _ else pure (some i)) _ _ s
  have hr : Bytes.fitsIndex i = true := by simp only [Bytes.fitsIndex, Bool.and_eq_true, decide_eq_true_eq]; omega
  rw [hr]
  refine wpAny_pure ?_
  show wpAny _ _ (Bytes.payload (.ref a) >>= fun b => _) _ _ s
  refine wpAny_bind (ba_payload ho hP ?_)
  have hi : seqIndex? i b.size = some i.toNat := by
    have hn : ¬ i < 0 := by omega
    have h1 : i < (b.size : Int) := by omega
    simp [seqIndex?, hn, h0, h1]
  rw [hi]
  show wpAny _ _ (match b[i.toNat]? with | some x => _ | none => _) _ _ s
  rw [hx]
  exact wpAny_bind (wpAny_mkInt (wpAny_pure ⟨_, rfl, h⟩))

theorem ba_write {f : Array UInt8 → Array UInt8} {Q : Unit → Shared → Prop} (ho : s.heap.get? a = some o) (hP : baP b o) (hz : (f b).size ≤ 1000000)
    (h : ∀ h' o', Heap.SameBut a s.heap h' → h'.get? a = some o' → baP (f b) o' → Q () { s with heap := h' }) : wpAny M A (Bytes.write (.ref a) f) Q E s := by
  obtain ⟨oc, od, oda, osl⟩ := o
  obtain ⟨h1, h2, h3⟩ := hP
  dsimp only at h1 h2 h3
  subst h1 h2 h3
  show wpAny _ _ (updateBytearray a f) _ _ _
  unfold updateBytearray
  refine wpAny_bind (wpAny_load ho ?_)
  show wpAny _ _ (update a (Obj.mapBytearray f) >>= fun _ => lookBehind a) _ _ _
  refine wpAny_bind (wpAny_update ho ?_)
  have hg : (s.heap.update a (Obj.mapBytearray f)).get? a = some ⟨.type "bytearray", none, .bytearray (f b) 0, osl⟩ := Heap.get?_update_self _ ho rfl
  refine wpAny_lookBehind (s := { s with heap := s.heap.update a (Obj.mapBytearray f) }) hg ?_ ?_
  · show (if (f b).size > sizeLine then some "bytearray:memory" else none) = none
    rw [if_neg]
    rw [sizeLine_eq]; omega
  · exact h _ _ (Heap.SameBut.update ..) hg ⟨rfl, rfl, rfl⟩

/-- no one has lent it: its size may be changed -/
theorem ba_resize {Q : Unit → Shared → Prop} (ho : s.heap.get? a = some o) (hP : baP b o) (h : Q () s) : wpB M A (Bytes.checkResize (.ref a)) Q E s := by
  unfold Bytes.checkResize
  have hx : wpB M A (Bytes.exported (.ref a) <||> (do return (← Bytes.exportsOf (.ref a)) > 0)) (fun r s' => r = false ∧ s' = s) NoE s := by
    refine b_bind (b_exported ?_)
    refine b_bind ?_
    show wpB M A (do
      match (← load a).data with
      | .bytearray _ n => pure n
      | _ => pure 0 : Sem Nat) _ _ _
    refine b_bind (of_any (wpAny_load ho ?_))
    rw [hP.2.2]
    exact b_pure (b_pure ⟨rfl, rfl⟩)
  refine b_bind (b_mono hx (fun r s' hr => ?_) fun _ _ x => x.elim)
  obtain ⟨rfl, rfl⟩ := hr
  exact b_pure h

theorem byteValue_of {i : Int} {t : Tok} {Q : UInt8 → Shared → Prop} (h0 : 0 ≤ i) (h1 : i < 256) (h : Q i.toNat.toUInt8 s) : wpAny M A (Bytes.byteValue (.int i t)) Q E s := by
  unfold Bytes.byteValue
  refine wpAny_bind (wpAny_of_eq (rfl : asIndex (.int i t) = pure i) ?_)
  have hc : (decide (i < 0) || decide (i ≥ 256)) = false := by simp only [Bool.or_eq_false_iff, decide_eq_false_iff_not]; omega
  rw [hc]
  exact wpAny_pure h

theorem ba_append {i : Int} {t : Tok} {Q : Value → Shared → Prop} (ho : s.heap.get? a = some o) (hP : baP b o) (h0 : 0 ≤ i) (h1 : i < 256) (hz : b.size < 1000000)
    (h : ∀ h' o', Heap.SameBut a s.heap h' → h'.get? a = some o' → baP (b.push i.toNat.toUInt8) o' → Q .none { s with heap := h' }) :
    wpB (model prog w) A (call (.builtin "bytearray.append") [.ref a, .int i t]) Q NoE s := by
  refine b_call_entry slot_ba_append (baP.typeIs ho hP) entry_ba_append ?_ (by decide +kernel) (args_ba_append _ _)
  show wpB _ _ (Bytes.byteValue (.int i t) >>= fun c => Bytes.checkResize (.ref a) >>= fun _ => Bytes.write (.ref a) (·.push c) >>= fun _ => ret .none) _ _ s
  refine b_bind (of_any (byteValue_of h0 h1 ?_))
  refine b_bind (ba_resize ho hP ?_)
  refine b_bind (of_any (ba_write ho hP (by rw [Array.size_push]; omega) fun h' o' hs ho' hP' => ?_))
  exact b_pure ⟨_, rfl, h h' o' hs ho' hP'⟩


/-! its octets as a buffer -/
set_option linter.deprecated false in
theorem ba_dropB : ("bytearray.__buffer__".dropRight ("__buffer__".length + 1)) = "bytearray" := by decide +kernel
set_option linter.deprecated false in
theorem ba_dropR : ("bytearray.__release_buffer__".dropRight ("__release_buffer__".length + 1)) = "bytearray" := by decide +kernel
theorem ba_isInst {Q : Bool → Shared → Prop} (ho : s.heap.get? a = some o) (hP : baP b o) (h : Q true s) : wpAny M A (isInstance (.ref a) (.type "bytearray")) Q E s :=
  wpAny_isInstance (baP.typeIs ho hP) PySem.F.isi_self_bytearray h
theorem ba_ownB {Q : Bool → Shared → Prop} (ho : s.heap.get? a = some o) (hP : baP b o) (h : Q true s) : wpAny M A (Bytes.slotIsOwn (.ref a) "__buffer__") Q E s := by
  unfold Bytes.slotIsOwn
  refine wpAny_bind (wpAny_specialOf (baP.typeIs ho hP) ba_look_buffer ?_)
  dsimp only
  rw [show (!"bytearray.__buffer__".endsWith ("." ++ "__buffer__")) = false from by decide +kernel]
  have key : ∀ x : String, x = "bytearray" → wpAny M A (isInstance (.ref a) (.type x)) Q E s := fun x hx => by rw [hx]; exact ba_isInst ho hP h
  exact key _ ba_dropB
theorem ba_ownR {Q : Bool → Shared → Prop} (ho : s.heap.get? a = some o) (hP : baP b o) (h : Q false s) : wpAny M A (Bytes.ownRelease (.ref a)) Q E s := by
  unfold Bytes.ownRelease
  refine wpAny_bind ?_
  unfold Bytes.slotIsOwn
  refine wpAny_bind (wpAny_specialOf (baP.typeIs ho hP) ba_look_release ?_)
  dsimp only
  rw [show (!"bytearray.__release_buffer__".endsWith ("." ++ "__release_buffer__")) = false from by decide +kernel]
  have key : ∀ x : String, x = "bytearray" → wpAny M A (isInstance (.ref a) (.type x)) (fun a s' => wpAny M A (pure !a) Q E s') E s := fun x hx => by rw [hx]; exact ba_isInst ho hP (wpAny_pure h)
  exact key _ ba_dropR
theorem ba_buffer {id : String} {full : Bool} {Q : Option (Array UInt8) → Shared → Prop} (ho : s.heap.get? a = some o) (hP : baP b o) (h : Q (some b) s) : wpAny M A (Bytes.buffer? id (.ref a) full) Q E s := by
  unfold Bytes.buffer?
  refine wpAny_bind (wpAny_specialOf (baP.typeIs ho hP) ba_look_buffer ?_)
  refine wpAny_bind (ba_ownB ho hP ?_)
  refine wpAny_bind (wpAny_specialOf (baP.typeIs ho hP) ba_look_buffer ?_)
  refine wpAny_bind (ba_ownR ho hP ?_)
  refine wpAny_bind (ba_payload ho hP ?_)
  exact wpAny_pure h
theorem ba_takeBuffer {id : String} {Q : Option (Array UInt8 × Option Value) → Shared → Prop} (ho : s.heap.get? a = some o) (hP : baP b o) (h : Q (some (b, none)) s) : wpAny M A (Bytes.takeBufferQuiet? id (.ref a) 0) Q E s := by
  unfold Bytes.takeBufferQuiet? Bytes.takeBuffer?
  refine wpAny_bind (wpAny_attempt ?_)
  refine wpAny_bind (wpAny_specialOf (baP.typeIs ho hP) ba_look_buffer ?_)
  refine wpAny_bind (ba_ownB ho hP ?_)
  refine wpAny_bind (wpAny_specialOf (baP.typeIs ho hP) ba_look_buffer ?_)
  refine wpAny_bind (ba_buffer ho hP ?_)
  exact wpAny_pure (wpAny_pure h)
theorem bytes_takeBuffer {id : String} {c : Array UInt8} {t : Tok} {Q : Option (Array UInt8 × Option Value) → Shared → Prop} (h : Q (some (c, none)) s) : wpAny M A (Bytes.takeBufferQuiet? id (.bytes c t) 0) Q E s := by
  unfold Bytes.takeBufferQuiet? Bytes.takeBuffer?
  refine wpAny_bind (wpAny_attempt ?_)
  refine wpAny_bind (wpAny_of_eq (KBy.special_eq KBy.look_buffer) ?_)
  refine wpAny_bind (wpAny_of_eq KBy.own_buffer ?_)
  refine wpAny_bind (wpAny_of_eq (KBy.special_eq KBy.look_buffer) ?_)
  refine wpAny_bind (wpAny_of_eq (a := some c) ?_ ?_)
  · unfold Bytes.buffer?
    rw [KBy.special_eq KBy.look_buffer, KBy.own_buffer, KBy.own_release]
    kernel_rfl
  · exact wpAny_pure (wpAny_pure h)

theorem ba_extend_by {v : Value} {T : String} {c : Array UInt8} {Q : Value → Shared → Prop} (ho : s.heap.get? a = some o) (hP : baP b o) (hz : b.size + c.size ≤ 1000000)
    (hT : s.TypeIs v T) (hl : ∃ id, typeLookup (.type T) "__buffer__" = pure (some (.builtin id)))
    (hb : ∀ (A : Around) (Q : Option (Array UInt8 × Option Value) → Shared → Prop) (E : Value → Shared → Prop), Q (some (c, none)) s → wpAny (model prog w) A (Bytes.takeBufferQuiet? "bytearray.extend" v 0) Q E s)
    (h : ∀ h' o', Heap.SameBut a s.heap h' → h'.get? a = some o' → baP (b ++ c) o' → Q .none { s with heap := h' }) :
    wpB (model prog w) A (call (.builtin "bytearray.extend") [.ref a, v]) Q NoE s := by
  refine b_call_entry slot_ba_extend (baP.typeIs ho hP) entry_ba_extend ?_ (by decide +kernel) (args_ba_extend _ _)
  obtain ⟨id, hl⟩ := hl
  unfold Builtin.«bytearray.extend»
  refine b_bind (b_pure ?_)
  refine b_bind (of_any (wpAny_specialOf hT hl ?_))
  refine b_bind (b_rule ?_)
  refine b_bind (of_any (ba_payload ho hP ?_))
  refine b_bind (of_any (hb _ _ _ ?_))
  show wpB _ _ (if (!c.isEmpty) = true then (Bytes.checkResize (.ref a) >>= fun _ => Bytes.write (.ref a) (· ++ c) >>= fun _ => ret .none) else (Bytes.write (.ref a) (· ++ c) >>= fun _ => ret .none)) _ _ s
  have fin : wpB (model prog w) A.in1 (Bytes.write (.ref a) (· ++ c) >>= fun _ => (ret .none : Sem PySem.Fin)) (fun fin s' => ∃ v, fin = Fin.done (Flow.ret v) ∧ Q v s') NoE s :=
    b_bind (of_any (ba_write ho hP (by rw [Array.size_append]; exact hz) fun h' o' hs ho' hP' => b_pure ⟨_, rfl, h h' o' hs ho' hP'⟩))
  split
  · exact b_bind (ba_resize ho hP fin)
  · exact fin
/-- more at the end, by bytes -/
theorem ba_extend_bytes {c : Array UInt8} {t : Tok} {Q : Value → Shared → Prop} (ho : s.heap.get? a = some o) (hP : baP b o) (hz : b.size + c.size ≤ 1000000)
    (h : ∀ h' o', Heap.SameBut a s.heap h' → h'.get? a = some o' → baP (b ++ c) o' → Q .none { s with heap := h' }) :
    wpB (model prog w) A (call (.builtin "bytearray.extend") [.ref a, .bytes c t]) Q NoE s :=
  ba_extend_by ho hP hz (typeIs_bytes s c t) ⟨_, KBy.look_buffer⟩ (fun _ _ _ q => bytes_takeBuffer q) h
/-- more at the end, by another bytearray -/
theorem ba_extend_ba {a' : Addr} {o₂ : Obj} {c : Array UInt8} {Q : Value → Shared → Prop} (ho : s.heap.get? a = some o) (hP : baP b o) (ho₂ : s.heap.get? a' = some o₂) (hP₂ : baP c o₂) (hz : b.size + c.size ≤ 1000000)
    (h : ∀ h' o', Heap.SameBut a s.heap h' → h'.get? a = some o' → baP (b ++ c) o' → Q .none { s with heap := h' }) :
    wpB (model prog w) A (call (.builtin "bytearray.extend") [.ref a, .ref a']) Q NoE s :=
  ba_extend_by ho hP hz (baP.typeIs ho₂ hP₂) ⟨_, ba_look_buffer⟩ (fun _ _ _ q => ba_takeBuffer ho₂ hP₂ q) h

/-! a slice of it -/
set_option maxHeartbeats 1000000 in
theorem ba_slice {sl : Addr} {l u : Value} {lo hi : Option Int} {Q : Value → Shared → Prop} (ho : s.heap.get? a = some o) (hP : baP b o) (hS : s.heap.IsSliceOf sl l u .none) (hl : IsPart l lo) (hu : IsPart u hi) (hz : (KBy.picked b lo hi).size ≤ 1000000)
    (h : Q (.ref s.heap.objs.size) { s with heap := s.heap.push { cls := .type "bytearray", data := .bytearray (KBy.picked b lo hi) } }) :
    wpAny (model prog w) A (getItem (.ref a) (.ref sl)) Q E s := by
  refine wpAny_getItem_slot (baP.typeIs ho hP) (by decide) slot_ba_getitem (wpAny_call_entry slot_ba_getitem (baP.typeIs ho hP) entry_ba_getitem ?_ (args_ba_getitem _ _))
  obtain ⟨os, hos, hc, hd⟩ := hS
  have hT : s.TypeIs (.ref sl) "slice" := ⟨os, hos, hc⟩
  show wpAny _ _ (Bytes.subscript? (.ref sl) >>= fun r => _) _ _ s
  refine wpAny_bind ?_
  unfold Bytes.subscript?
  refine wpAny_bind (wpAny_specialOf hT slice_no_index (wpAny_pure ?_))
  refine wpAny_bind (wpAny_typeOf hT ?_)
  show wpAny _ _ (Bytes.sliceParts (.ref sl) >>= fun r => _) _ _ s
  refine wpAny_bind ?_
  unfold Bytes.sliceParts
  refine wpAny_bind (wpAny_field (x := .none) hos hd rfl ?_)
  kby_none
  refine wpAny_ite (KBy.ite_no (show ¬ ((Value.none == rawInt 0) = true) from Bool.false_ne_true) ?_)
  refine wpAny_bind (wpAny_field (x := l) hos hd rfl ?_)
  have go : wpAny (model prog w) A.in1 (sliceIndices (rawPart lo) (rawPart hi) (rawPart none) b.size) (fun r s' => r = sliceBounds lo hi none b.size ∧ s' = s) (fun _ _ => False) s :=
    wpAny_of_eq (sliceIndices_raw lo hi none b.size (fun e => nomatch e)) ⟨rfl, rfl⟩
  have hz' : sizeOk (.bytearray (KBy.picked b lo hi)) := by
    show (KBy.picked b lo hi).size ≤ sizeLine
    rw [sizeLine_eq]
    exact Nat.le_trans hz (by decide)
  cases hl <;> cases hu <;> (first
    | (kby_none; (refine wpAny_bind (wpAny_field (x := .none) hos hd rfl ?_)); kby_none)
    | (kby_none; (refine wpAny_bind (wpAny_field (x := .int _ _) hos hd rfl ?_)); kby_int)
    | (kby_int; (refine wpAny_bind (wpAny_field (x := .none) hos hd rfl ?_)); kby_none)
    | (kby_int; (refine wpAny_bind (wpAny_field (x := .int _ _) hos hd rfl ?_)); kby_int)) <;> refine wpAny_pure ?_
  all_goals
    refine wpAny_bind (ba_payload ho hP ?_)
    refine wpAny_bind (wpAny_mono go (fun r s' hr => ?_) fun _ _ e => e.elim)
    obtain ⟨hr1, hr2⟩ := hr
    subst hr1 hr2
    refine wpAny_bind ?_
    unfold Bytes.newBytearray
    exact wpAny_newObj_type (wpAny_pure ⟨_, rfl, h⟩) hz'
end
end Mine
end

section
namespace Mine
open PySem PySem.Calls PyProof.Rows PySem.W Builtin
section
variable {prog : Program} {w : World} {A : Around} {E : Value → Shared → Prop} {s : Shared} {a : Addr} {b : Array UInt8} {o : Obj} {M : Model}

/-- bytes of a bytearray -/
theorem bytes_of_ba_new {Q : Value → Shared → Prop} (ho : s.heap.get? a = some o) (hP : baP b o) (hz : b.size ≤ 1000000)
    (hQ : Q (.bytes b s.toks) { s with toks := s.toks + 1 }) :
    codeAny (model prog w) A (.call (.builtin "bytes.__new__") ⟨[.type "bytes", .ref a], []⟩) (wants Q E) s := by
  refine codeAny_of_tree ?_
  show wpAny _ A.in1 (do checkBuiltinCall "bytes.__new__" ⟨[.type "bytes", .ref a], []⟩; again (.builtin "bytes.__new__" ⟨[.type "bytes", .ref a], []⟩)) _ _ s
  refine wpAny_bind (wpAny_of_eq (F.bm_newCall _) (wpAny_pure ⟨plainId_quiet F.bm_plain _, codeAny_builtin F.bm_entry ?_⟩))
  rw [Around.under_plainId F.bm_plain _]
  have hT := baP.typeIs (s := s) ho hP
  unfold Builtin.«bytes.__new__»
  refine wpAny_bind (wpAny_of_eq (a := true) rfl ?_)
  refine bm_if_false rfl ?_
  refine wpAny_bind (wpAny_of_eq F.bm_sub ?_)
  refine bm_if_false rfl ?_
  refine wpAny_bind (wpAny_of_eq (F.bm_bind _) ?_)
  refine wpAny_bind (wpAny_of_eq (a := ()) rfl ?_)
  refine wpAny_bind (wpAny_of_eq (a := ()) rfl ?_)
  refine bm_if_false rfl ?_
  refine wpAny_bind (wpAny_specialOf hT ba_no_bytes ?_)
  refine wpAny_bind (wpAny_bind ?_)
  show wpAny _ _ (load a >>= _) _ _ _
  refine wpAny_bind (wpAny_load ho ?_)
  rw [hP.2.2]
  refine wpAny_pure (wpAny_pure ?_)
  refine bm_if_false rfl ?_
  refine wpAny_bind (wpAny_specialOf hT ba_no_index ?_)
  refine bm_if_true rfl ?_
  first
    | show wpAny _ _ (Builtin.Bytes.buffer? "bytes.__new__" (.ref a) true >>= _) _ _ _
    | (refine wpAny_bind ?_; show wpAny _ _ (Builtin.Bytes.buffer? "bytes.__new__" (.ref a) true >>= _) _ _ _)
  refine wpAny_bind (ba_buffer ho hP ?_)
  refine wpAny_bind (wpAny_rule ?_)
  refine wpAny_bind (wpAny_mkBytes ?_ (by rw [sizeLine_eq]; exact Nat.le_trans hz (by decide)))
  show wpAny _ _ (if (Value.type "bytes" == Value.type "bytes") = true then _ else _) _ _ _
  refine bm_if_true (by decide) ?_
  first
    | exact wpAny_pure hQ
    | exact wpAny_bind (wpAny_pure (wpAny_pure hQ))

theorem bytes_of_ba {Q : Value → Shared → Prop} (ho : s.heap.get? a = some o) (hP : baP b o) (hz : b.size ≤ 1000000)
    (hQ : Q (.bytes b s.toks) { s with toks := s.toks + 1 }) : wpAny (model prog w) A (call (.type "bytes") [.ref a]) Q E s := by
  refine callType_codes (Q₁ := fun obj s₁ => s₁.TypeIs obj "bytes" ∧ Q obj s₁) F.bm_called (F.bm_typeCall _) F.entry_object_init
    (bytes_of_ba_new ho hP hz ⟨PySem.W.typeIs_bytes _ _ _, hQ⟩) fun obj s₁ h₁ => ?_
  exact ⟨h₁.1, F.args_object_init_2 obj _, object_init_meets F.bm_called.init.lookup F.bm_called.made (by decide) prog w A.in1 _ s₁ ⟨h₁.1, rfl, h₁.2⟩⟩

theorem code_ba_new {Q₁ : Value → Shared → Prop}
    (h : Q₁ (.ref s.heap.objs.size) { s with heap := s.heap.push { cls := .type "bytearray", data := .bytearray #[] } }) :
    codeAny (model prog w) A (.call (.builtin "bytearray.__new__") ⟨[.type "bytearray"], []⟩) (wants Q₁ E) s := by
  refine codeAny_of_tree ?_
  show wpAny _ A.in1 (do checkBuiltinCall "bytearray.__new__" ⟨[.type "bytearray"], []⟩; again (.builtin "bytearray.__new__" ⟨[.type "bytearray"], []⟩)) _ _ s
  refine wpAny_bind (wpAny_of_eq ba_newCall (wpAny_pure ⟨plainId_quiet ba_plain_new _, codeAny_builtin_stack ba_entry_new rfl fun p st => ?_⟩))
  rw [Around.under_plainId ba_plain_new _]
  have hsub := PySem.F.isi_self_bytearray
  have hown := owner_ba_new
  obtain ⟨hp, g, d, tk, os⟩ := s
  simp only [hown]
  wp_walk
  exact h

theorem b_callSpecial {self : Value} {T : String} {name : Str} {id : String} {args : List Value} {kw : List (Str × Value)}
    {Q : Option Value → Shared → Prop} (hT : s.TypeIs self T) (h : Slot T name id)
    (hc : wpB M A (call (.builtin id) (self :: args) kw) (fun v => Q (some v)) E s) : wpB M A (callSpecial? self name args kw) Q E s := by
  simp only [callSpecial?]
  refine b_bind (of_any (wpAny_specialOf hT h.lookup ?_))
  simp only [h.bind]
  exact b_holding (b_bind (b_pure (b_bind (b_mono hc (fun v s' h' => b_pure h') fun _ _ h' => h'))))

theorem ba_init {Q : Value → Shared → Prop} (ho : s.heap.get? a = some o) (hP : baP b o)
    (h : ∀ h' o', Heap.SameBut a s.heap h' → h'.get? a = some o' → baP #[] o' → Q .none { s with heap := h' }) :
    wpB (model prog w) A (call (.builtin "bytearray.__init__") [.ref a]) Q NoE s := by
  refine b_call_entry slot_ba_init (baP.typeIs ho hP) entry_ba_init ?_ (by decide +kernel) (args_ba_init _)
  unfold Builtin.«bytearray.__init__»
  dsimp only
  refine b_bind (of_any (ba_ownR ho hP ?_))
  simp only [Bool.false_eq_true, if_false]
  refine b_bind (b_of_eq ba_bind ?_)
  dsimp only
  refine b_bind (b_of_eq (a := ()) rfl (b_bind (b_of_eq (a := ()) rfl ?_)))
  have hx : wpB (model prog w) A.in1 (Bytes.exported (.ref a) <||> (do return (← Bytes.exportsOf (.ref a)) > 0)) (fun r s' => r = false ∧ s' = s) NoE s := by
    refine b_bind (b_exported ?_)
    refine b_bind ?_
    show wpB _ _ (do
      match (← load a).data with
      | .bytearray _ n => pure n
      | _ => pure 0 : Sem Nat) _ _ _
    refine b_bind (of_any (wpAny_load ho ?_))
    rw [hP.2.2]
    exact b_pure (b_pure ⟨rfl, rfl⟩)
  refine b_bind (b_mono hx (fun r s' hr => ?_) fun _ _ x => x.elim)
  obtain ⟨rfl, rfl⟩ := hr
  simp only [Bool.false_eq_true, if_false]
  refine b_bind (of_any (ba_write ho hP (by simp) fun h' o' hs ho' hP' => ?_))
  exact b_pure ⟨_, rfl, h h' o' hs ho' hP'⟩

/-- an empty bytearray -/
theorem ba_make {Q : Value → Shared → Prop}
    (h : ∀ h' o', Heap.SameBut s.heap.objs.size (s.heap.push { cls := .type "bytearray", data := .bytearray #[] }) h' → h'.get? s.heap.objs.size = some o' → baP #[] o' → Q (.ref s.heap.objs.size) { s with heap := h' }) :
    wpB (model prog w) A (call (.type "bytearray") []) Q NoE s := by
  obtain ⟨c, tl, hmro⟩ := ba_called.mro
  have hmade := ba_called.made
  refine b_call (codeB_of_tree ?_)
  show wpB _ _ (callAny (.type "bytearray") _) _ _ _
  refine b_pure ⟨Code.quiet_builtin _ (by decide +kernel), by decide +kernel, codeB_builtin F.entry_type_call ?_⟩
  rw [Around.under_plain (weight_type_call_type "bytearray" [] []) rfl]
  unfold Builtin.«type.__call__»
  have h1 := ba_called.notType
  have h2 := ba_called.canCreate
  dsimp only
  rw [h1]
  simp only [Bool.false_eq_true, if_false, h2]
  refine b_bind (b_of_eq ba_typeCall (b_bind (b_of_eq hmro ?_)))
  simp only [List.isEmpty_cons, Bool.false_eq_true, if_false]
  refine b_bind (b_of_eq hmade (b_bind (b_pure (b_bind (b_holding (of_any (wpAny_call ?_)))))))
  refine codeAny_mono (code_ba_new (E := NoE) (Q₁ := fun obj s₁ => obj = .ref s.heap.objs.size ∧ s₁ = { s with heap := s.heap.push { cls := .type "bytearray", data := .bytearray #[] } }) ⟨rfl, rfl⟩) fun r s₁ hr => ?_
  rcases r with e | (_ | _ | _ | obj) <;> first | exact hr.elim | skip
  obtain ⟨rfl, rfl⟩ := hr
  have hg : (s.heap.push { cls := .type "bytearray", data := .bytearray #[] }).get? s.heap.objs.size = some { cls := .type "bytearray", data := .bytearray #[] } := Heap.get?_push_size _ rfl
  have hP : baP #[] { cls := .type "bytearray", data := .bytearray #[] } := ⟨rfl, rfl, rfl⟩
  refine b_bind (of_any (ba_isInst (s := { s with heap := s.heap.push { cls := .type "bytearray", data := .bytearray #[] } }) hg hP ?_))
  simp only [Bool.not_true, Bool.false_eq_true, if_false]
  refine b_bind (b_holding (b_callSpecial (baP.typeIs (s := { s with heap := s.heap.push { cls := .type "bytearray", data := .bytearray #[] } }) hg hP) slot_ba_init ?_))
  refine ba_init (s := { s with heap := s.heap.push { cls := .type "bytearray", data := .bytearray #[] } }) hg hP fun h' o' hs ho' hP' => ?_
  exact b_pure (h h' o' hs ho' hP')
end
end Mine
end

noncomputable section
namespace Mine
open PySem PySem.Calls PyProof.Rows PySem.W

abbrev KW (P : Params) : Frag := myK P

/-- what stands from the start on -/
structure Stat (w : World) (base : Heap) : Prop where
  X : (KW w.params).In base
  g : ∃ mg, base.Ns mainGlobals mg
  b : ∃ mb, base.Ns builtinsNs mb ∧ ∀ x : Str, x ≠ "__name__" → mb x = bootBuiltins x
  lim : base.NoLimit

noncomputable def fdK (P : Params) (a : Addr) : FuncData := match (KW P).lookup a with
  | some ⟨_, _, .func fd, _⟩ => fd
  | _ => default
noncomputable def bodyK (P : Params) (a : Addr) : List Stmt := match (fdK P a).body with
  | .stmts b => b
  | _ => []
/-- a def's frame at `L`; `cl` its cells -/
noncomputable def envK (P : Params) (a L : Addr) (cl : List (Str × Addr)) : Env :=
  { scope := (fdK P a).scope, locals := L, globals := mainGlobals, cells := cl, qual := (fdK P a).qualname ++ ".<locals>.", func := some a, code := (fdK P a).code, frame := some L, builtins := builtinsNs }

noncomputable def fnGood (P : Params) (a : Addr) : Bool := match (KW P).lookup a with
  | some ⟨_, _, .func fd, _⟩ => codeIn (KW P) fd.code fd.qualname && fd.scope.names.all (fun x => x.2 != .cell) && !fd.scope.isCoroutine && !fd.scope.isGenerator && fd.scope.kind == .function && fd.globals == mainGlobals && fd.closure.isEmpty && fd.builtins == builtinsNs &&
      (match fd.body with | .stmts _ => true | _ => false)
  | _ => false

/-- the locals, the newest first -/
noncomputable def Vars (ls : List (Str × Value)) : Str → Option Value := fun y => ls.lookup y
theorem vars_store (ls : List (Str × Value)) (x : Str) (v : Value) : (fun y => if y = x then some v else Vars ls y) = Vars ((x, v) :: ls) := by
  funext y
  unfold Vars
  rw [List.lookup_cons]
  by_cases h : y = x
  · subst h; simp
  · have : (y == x) = false := beq_eq_false_iff_ne.mpr h
    simp [h, this]

section
variable {prog : Program} {w : World} {A : Around} {E : Value → Shared → Prop} {base h₀ h : Heap} {l₀ l : List Item} {L : Addr} {g : Array GenState} {d : Drawn} {tk : Nat} {os : OsState} {ls : List (Str × Value)} {a : Addr} {cl : List (Str × Addr)}

theorem Stat.here (S : Stat w base) (k : ∀ b o, base.get? b = some o → h.get? b = some o) : (KW w.params).In h := S.X.keeps k

/-- a call of a def of the text -/
theorem b_callK {args : List Value} {binds : List (Str × Value)} {Q : Value → Shared → Prop} (S : Stat w base) (O : Own base h l) (hg : fnGood w.params a = true) (hroom : A.depth < recursionLimit)
    (hb : bindArgs (fdK w.params a) ⟨args, []⟩ = pure binds) (hloc : (binds.all fun x => decide ((fdK w.params a).scope.names.lookup x.1 = some .local)) = true)
    (k : ∀ h₁ tk₁, Led base h l h.objs.size h₁ (Vars binds.reverse) l →
      wpB (model prog w) (A.deeper (envK w.params a h.objs.size [])) (execs (bodyK w.params a) (envK w.params a h.objs.size [])) (fun f s' => Q (match f with | .ret v => v | _ => .none) s') NoE ⟨h₁, g, d, tk₁, os⟩) :
    wpB (model prog w) A (call (.ref a) args) Q NoE ⟨h, g, d, tk, os⟩ := by
  have X := S.here O.stay
  unfold fnGood at hg
  split at hg
  · rename_i cc od fd osl ho
    simp only [Bool.and_eq_true, Bool.not_eq_true', beq_iff_eq, List.isEmpty_iff] at hg
    obtain ⟨⟨⟨⟨⟨⟨⟨⟨h1, h2⟩, h3⟩, h4⟩, h5⟩, h6⟩, h7⟩, h8⟩, h9⟩ := hg
    have hfd : fdK w.params a = fd := by unfold fdK; rw [ho]
    have hbody : fd.body = .stmts (bodyK w.params a) := by
      unfold bodyK
      rw [hfd]
      revert h9
      cases fd.body <;> simp
    rw [hfd] at hb hloc
    have henv : callEnv fd h.objs.size a = envK w.params a h.objs.size [] := by
      unfold envK
      rw [hfd]
      show ({ scope := fd.scope, locals := h.objs.size, globals := fd.globals, cells := fd.closure, qual := fd.qualname ++ ".<locals>.", func := some a, code := fd.code, frame := some h.objs.size, builtins := fd.builtins } : Env) = _
      rw [h6, h7, h8]
    refine b_calls (b_call_fn (s := ⟨h, g, d, tk, os⟩) hroom (X _ _ ho) rfl (S.lim.keeps O.stay) (codeRec_of X h1) hbody (BindsTo.of_eq hb) (fun x hx => ?_) (locs hloc) (fun h₁ hn hs => ?_) h3 h4 h5)
    · have := List.all_eq_true.mp h2 x hx
      simpa using this
    · have D := Led.enter O hn hs
      rw [henv]
      exact k h₁ _ D
  · cases hg

/-! names -/
theorem b_local {x : Str} {pos : Pos} {v : Value} {Q : Value → Shared → Prop} (D : Led base h₀ l₀ L h (Vars ls) l) (hv : ls.lookup x = some v) (k : Q v ⟨h, g, d, tk, os⟩)
    (hk : (fdK w.params a).scope.kind = .function := by kernel_rfl) (hl : (fdK w.params a).scope.names.lookup x = some .local := by kernel_rfl) (hd : (x == ("__debug__" : Str)) = false := by decide) :
    wpB (model prog w) A (eval (.Name x pos) (envK w.params a L cl)) Q E ⟨h, g, d, tk, os⟩ :=
  b_Name (of_any (wpAny_loadName_local (env := envK w.params a L cl) (s := ⟨h, g, d, tk, os⟩) hk hl D.ns hv k)) hd
theorem b_ldn {x : Str} {v : Value} {Q : Value → Shared → Prop} (D : Led base h₀ l₀ L h (Vars ls) l) (hv : ls.lookup x = some v) (k : Q v ⟨h, g, d, tk, os⟩)
    (hk : (fdK w.params a).scope.kind = .function := by kernel_rfl) (hl : (fdK w.params a).scope.names.lookup x = some .local := by kernel_rfl) :
    wpB (model prog w) A (loadName (envK w.params a L cl) x) Q E ⟨h, g, d, tk, os⟩ :=
  of_any (wpAny_loadName_local (env := envK w.params a L cl) (s := ⟨h, g, d, tk, os⟩) hk hl D.ns hv k)
theorem b_store {x : Str} {v : Value} {Q : Unit → Shared → Prop} (D : Led base h₀ l₀ L h (Vars ls) l) (k : ∀ h' tk', Led base h₀ l₀ L h' (Vars ((x, v) :: ls)) l → Q () ⟨h', g, d, tk', os⟩)
    (hk : (fdK w.params a).scope.kind = .function := by kernel_rfl) (hl : (fdK w.params a).scope.names.lookup x = some .local := by kernel_rfl) :
    wpB (model prog w) A (storeName (envK w.params a L cl) x v) Q E ⟨h, g, d, tk, os⟩ :=
  of_any (wpAny_storeName_local (env := envK w.params a L cl) (s := ⟨h, g, d, tk, os⟩) hl D.ns (fun h' hn hs => k h' _ (vars_store ls x v ▸ D.store hn hs))
    (by show ((fdK w.params a).scope.kind == .class || ((fdK w.params a).scope.kind == .module && L != mainGlobals)) = false; rw [hk]; rfl))
theorem b_global {x : Str} {pos : Pos} {v : Value} {Q : Value → Shared → Prop} (S : Stat w base) (D : Led base h₀ l₀ L h (Vars ls) l) (hv : nsIn (KW w.params) mainGlobals x = some (some v)) (k : Q v ⟨h, g, d, tk, os⟩)
    (hk : (fdK w.params a).scope.kind = .function := by kernel_rfl) (hl : (fdK w.params a).scope.names.lookup x = some .globalImplicit := by kernel_rfl) (hd : (x == ("__debug__" : Str)) = false := by decide) :
    wpB (model prog w) A (eval (.Name x pos) (envK w.params a L cl)) Q E ⟨h, g, d, tk, os⟩ := by
  obtain ⟨mg, hg⟩ := S.g
  exact of_any (Name_function_global (env := envK w.params a L cl) hk hl (loadGlobal_global (env := envK w.params a L cl) (s := ⟨h, g, d, tk, os⟩) (hg.keeps D.stay) (mg_of S.X hg hv) k) hd)
theorem b_blt {x : Str} {pos : Pos} {v : Value} {Q : Value → Shared → Prop} (S : Stat w base) (D : Led base h₀ l₀ L h (Vars ls) l) (hm : nsIn (KW w.params) mainGlobals x = some none) (hv : bootBuiltins x = some v) (hn : x ≠ "__name__") (k : Q v ⟨h, g, d, tk, os⟩)
    (hk : (fdK w.params a).scope.kind = .function := by kernel_rfl) (hl : (fdK w.params a).scope.names.lookup x = some .globalImplicit := by kernel_rfl) (hd : (x == ("__debug__" : Str)) = false := by decide) :
    wpB (model prog w) A (eval (.Name x pos) (envK w.params a L cl)) Q E ⟨h, g, d, tk, os⟩ := by
  obtain ⟨mg, hg⟩ := S.g
  obtain ⟨mb, hb, hbb⟩ := S.b
  exact of_any (Name_function_global (env := envK w.params a L cl) hk hl (loadGlobal_builtin (env := envK w.params a L cl) (s := ⟨h, g, d, tk, os⟩) (hg.keeps D.stay) (mg_none_of S.X hg hm) (hb.keeps D.stay) ((hbb x hn).trans hv) k) hd)

/-! objects of a class -/
inductive RowsAre (P : Params) : List (Str × Value) → List DictEntry → Prop
  | nil : RowsAre P [] []
  | cons (x : Str) (v : Value) (t : Tok) {r es} : RowsAre P r es → RowsAre P ((x, v) :: r) (⟨PyData.keyHash P x, .str x t, v⟩ :: es)

noncomputable def instP (C dx : Addr) : Obj → Prop := fun o => o.cls = .ref C ∧ o.dict = some dx ∧ o.data = .plain
noncomputable def rowsP (P : Params) (rows : List (Str × Value)) : Obj → Prop := fun o => ∃ es n, RowsAre P rows es ∧ o = dictOf es n

theorem key_isStr (x y : Str) (t : Tok) : (Value.str x t).isStr y = (y == x) := by
  show (x == y) = (y == x)
  exact Bool.eq_iff_iff.mpr ⟨fun e => by rw [beq_iff_eq.mp e]; exact beq_self_eq_true y, fun e => by rw [beq_iff_eq.mp e]; exact beq_self_eq_true x⟩
theorem rows_noRef {P : Params} {rows : List (Str × Value)} {es : List DictEntry} (R : RowsAre P rows es) : es.any (·.refKey) = false := by
  induction R with
  | nil => rfl
  | cons x v t _ ih => rw [List.any_cons, ih]; rfl
theorem rows_get {P : Params} {rows : List (Str × Value)} {es : List DictEntry} (R : RowsAre P rows es) (x : Str) : getL x es = some (rows.lookup x) := by
  have key : (es.find? (·.key.isStr x)).map (·.val) = rows.lookup x := by
    induction R with
    | nil => rfl
    | cons y v t _ ih =>
      rw [List.find?_cons, List.lookup_cons]
      dsimp only
      rw [key_isStr]
      cases x == y <;> simp [ih]
  unfold getL
  split
  · rename_i e he; rw [he] at key; rw [← key]; rfl
  · rename_i he; rw [he] at key; rw [if_neg (by rw [rows_noRef R]; decide), ← key]; rfl
/-- a row put anew, or behind the others -/
noncomputable def putRow (x : Str) (v : Value) : List (Str × Value) → List (Str × Value)
  | [] => [(x, v)]
  | (y, u) :: r => if x == y then (y, v) :: r else (y, u) :: putRow x v r
theorem rows_put {P : Params} {rows : List (Str × Value)} {es : List DictEntry} (R : RowsAre P rows es) (x : Str) (t : Tok) (v : Value) : RowsAre P (putRow x v rows) (putL x (PyData.keyHash P x) (.str x t) v es) := by
  induction R with
  | nil => exact .cons x v t .nil
  | cons y u t' R' ih =>
    unfold putRow putL
    dsimp only
    rw [key_isStr]
    cases x == y with
    | true => exact .cons y v t' R'
    | false => exact .cons y u t' ih
theorem rows_len {P : Params} {rows : List (Str × Value)} {es : List DictEntry} (R : RowsAre P rows es) : es.length = rows.length := by
  induction R with
  | nil => rfl
  | cons y u t' R' ih => rw [List.length_cons, List.length_cons, ih]

theorem inst_at {C x dx : Addr} {i j : Nat} {rows : List (Str × Value)} (D : Led base h₀ l₀ L h (Vars ls) l) (hx : l[i]? = some (x, instP C dx)) (hd : l[j]? = some (dx, rowsP w.params rows)) :
    ∃ ox es n, InstAt h x ox C (some (dictOf es n)) ∧ ox.dict = some dx ∧ h.get? dx = some (dictOf es n) ∧ RowsAre w.params rows es := by
  obtain ⟨ox, ho, hc, hdx, hp⟩ := D.at hx
  obtain ⟨od, ho', es, n, R, rfl⟩ := D.at hd
  exact ⟨ox, es, n, ⟨ho, hc, by unfold notCls; rw [hp], by rw [hdx]; exact ho'⟩, hdx, ho', R⟩

noncomputable def attrGood (P : Params) (C : Addr) (name : Str) : Bool := plainGet (KW P) C name && hasDictIn (KW P) C && (match findIn (KW P) (.ref C) name with
  | some attr => noGet (KW P) attr
  | none => false)
/-- a value of an object is read -/
theorem b_get {C x dx : Addr} (i j : Nat) {rows : List (Str × Value)} {name : Str} {v : Value} {ex : Bool} {Q : Value → Shared → Prop} (S : Stat w base) (D : Led base h₀ l₀ L h (Vars ls) l)
    (hx : l[i]? = some (x, instP C dx)) (hd : l[j]? = some (dx, rowsP w.params rows)) (hv : rows.lookup name = some v) (hg : attrGood w.params C name = true) (hh : handedIn v = true) (k : Q v ⟨h, g, d, tk + 1, os⟩) :
    wpB (model prog w) A (getAttr (.ref x) name ex) Q E ⟨h, g, d, tk, os⟩ := by
  obtain ⟨ox, es, n, I, hdx, hod, R⟩ := inst_at D hx hd
  unfold attrGood at hg
  simp only [Bool.and_eq_true] at hg
  obtain ⟨⟨h1, h2⟩, h3⟩ := hg
  split at h3
  · rename_i attr ha
    exact of_any (get_value (s := ⟨h, g, d, tk, os⟩) (S.here D.stay) I (plainGet_of h1).1 (findObj_own h2 ha h3 (by rw [lookIn_dict, rows_get R, hv])) hh k)
  · cases h3
noncomputable def methGood (P : Params) (C : Addr) (name : Str) (f : Addr) : Bool := plainGet (KW P) C name && findIn (KW P) (.ref C) name == some (some (.ref f)) && typeIn (KW P) (.ref f) == some (.type "function")
/-- a method of an object is looked up -/
theorem b_meth {C x dx f : Addr} (i j : Nat) {rows : List (Str × Value)} {name : Str} {pl : Sem Bool} {Q : Value × List Value → Shared → Prop} (S : Stat w base) (D : Led base h₀ l₀ L h (Vars ls) l)
    (hx : l[i]? = some (x, instP C dx)) (hd : l[j]? = some (dx, rowsP w.params rows)) (hv : rows.lookup name = none) (hg : methGood w.params C name f = true) (k : Q (.ref f, [.ref x]) ⟨h, g, d, tk, os⟩) :
    wpB (model prog w) A (getMethod (.ref x) name pl) Q E ⟨h, g, d, tk, os⟩ := by
  obtain ⟨ox, es, n, I, hdx, hod, R⟩ := inst_at D hx hd
  unfold methGood at hg
  simp only [Bool.and_eq_true, beq_iff_eq] at hg
  obtain ⟨⟨h1, h2⟩, h3⟩ := hg
  exact of_any (method_fn (s := ⟨h, g, d, tk, os⟩) (S.here D.stay) I (plainGet_of h1).1 (plainGet_of h1).2 h2 h3 (by show (lookIn name (dictOf es n)).map _ = _; rw [lookIn_dict, rows_get R, hv]; rfl) k)
noncomputable def storeGood (P : Params) (C : Addr) (name : Str) : Bool := findIn (KW P) (.ref C) "__setattr__" == some (some (.builtin "object.__setattr__")) && plainOver (KW P) C && takerIn (KW P) C name == some none && hasDictIn (KW P) C
/-- a value of an object is stored -/
theorem b_set {C x dx : Addr} (i j : Nat) {rows : List (Str × Value)} {name : Str} {v : Value} {Q : Unit → Shared → Prop} (S : Stat w base) (D : Led base h₀ l₀ L h (Vars ls) l)
    (hx : l[i]? = some (x, instP C dx)) (hd : l[j]? = some (dx, rowsP w.params rows)) (hg : storeGood w.params C name = true) (hz : rows.length ≤ 500)
    (k : ∀ h' tk', Led base h₀ l₀ L h' (Vars ls) (l.set j (dx, rowsP w.params (putRow name v rows))) → Q () ⟨h', g, d, tk', os⟩) :
    wpB (model prog w) A (setAttr (.ref x) name v) Q E ⟨h, g, d, tk, os⟩ := by
  obtain ⟨ox, es, n, I, hdx, hod, R⟩ := inst_at D hx hd
  have X := S.here D.stay
  unfold storeGood at hg
  simp only [Bool.and_eq_true, beq_iff_eq] at hg
  obtain ⟨⟨⟨h1, h2⟩, h3⟩, h4⟩ := hg
  refine of_any (set_plain (s := ⟨h, g, d, tk, os⟩) X I h1 (osa_open (s := ⟨h, g, d, tk + 1, os⟩) X I h2 h3 fun b => ?_))
  obtain ⟨cd, hc, hd'⟩ := any_some h4
  have R' := rows_put R name (tk + 1) v
  have hlen : (putL name (PyData.keyHash w.params name) (.str name (tk + 1)) v es).length ≤ 1000 := by
    rw [rows_len R']
    have : ∀ r : List (Str × Value), (putRow name v r).length ≤ r.length + 1 := by
      intro r
      induction r with
      | nil => exact Nat.le_refl _
      | cons p r ih =>
        obtain ⟨y, u⟩ := p
        unfold putRow
        split
        · exact Nat.le_succ _
        · exact Nat.succ_le_succ ih
    have := this rows
    omega
  obtain ⟨hx', hcl, hn, -⟩ := I
  obtain ⟨oc, odi, oda, osl⟩ := ox
  dsimp only at hcl hdx
  subst hcl hdx
  refine wpAny_bind (wpAny_pure (wpAny_bind (wpAny_bind (wpAny_loadPart (s := ⟨h, g, d, tk + 1, os⟩) hx' (wpAny_bind ((looks_clsIn X hc).here ?_))))))
  rw [hd']
  refine wpAny_pure (a := some dx) (wpAny_bind (wpAny_pure (wpAny_bind ?_)))
  unfold nsSet
  refine wpAny_bind (wpAny_bind (wpAny_askSetting (wpAny_pure (wpAny_bind (wpAny_mkText (wpAny_bind (wpAny_loadPart (s := ⟨h, g, d, tk + 2, os⟩) hod ?_)))))))
  have c : (!es.toArray.any (·.key.isStr name) && es.toArray.any (·.refKey)) = false := by
    rw [← Array.any_toList, ← Array.any_toList]
    show (!es.any _ && es.any _) = false
    rw [rows_noRef R, Bool.and_false]
  have e := putName_dict name (PyData.keyHash w.params name) (.str name (tk + 1)) v es n
  have ge : (h.update dx (Obj.putName name (PyData.keyHash w.params name) (.str name (tk + 1)) v)).get? dx = some (dictOf (putL name (PyData.keyHash w.params name) (.str name (tk + 1)) v es) (putN name es n)) := by
    rw [← e]
    exact Heap.get?_update_self _ hod (by rw [e]; rfl)
  dsimp only
  rw [aRefKeyMayBeTheName_at, c]
  refine wpAny_updatePart (s := ⟨h, g, d, tk + 2, os⟩) hod ?_
  refine wpAny_bind (wpAny_lookBehind (s := ⟨h.update dx _, g, d, tk + 2, os⟩) ge (pastItsLine_dict (by rw [List.size_toArray, sizeLine_eq]; omega)) ?_)
  exact wpAny_pure (k _ _ (D.upd hd (Heap.SameBut.update ..) ge ⟨_, _, R', rfl⟩))

/-- a class's own value is read -/
theorem b_cls {C : Addr} {name : Str} {v : Value} {ex : Bool} {Q : Value → Shared → Prop} (S : Stat w base) (D : Led base h₀ l₀ L h (Vars ls) l) (hg : readsIn (KW w.params) C (.type "type") = true) (hf : findCls (KW w.params) (.ref C) (.type "type") name = some (.val v))
    (hh : handedIn v = true) (k : Q v ⟨h, g, d, tk + 1, os⟩) : wpB (model prog w) A (getAttr (.ref C) name ex) Q E ⟨h, g, d, tk, os⟩ :=
  of_any (cls_value (s := ⟨h, g, d, tk, os⟩) (S.here D.stay) hg hf hh k)
end
end Mine
end

section
namespace Mine
open PySem PySem.Calls PyProof.Rows PySem.W

section
variable {M : Model} {A : Around} {E : Value → Shared → Prop} {s : Shared} {env : Env}
/-- behind the operands of a subscript -/
noncomputable def ItemTail (M : Model) (A : Around) (value slice : Expr) (o i : Value) (Q : Value → Shared → Prop) (E : Value → Shared → Prop) (s : Shared) : Prop :=
  wpB M A (getitemInPython o) (fun b s₃ => wpB M A (subscripted slice b o i) (fun r s₄ => wpB M A (letTemporaryGo value o r) (fun _ => Q r) E s₄) E s₃) E s
noncomputable def SliceTail (M : Model) (A : Around) (value slice : Expr) (o x y : Value) (Q : Value → Shared → Prop) (E : Value → Shared → Prop) (s : Shared) : Prop :=
  wpB M A (newFields "slice" [x, y, .none]) (fun i s₃ => ItemTail M A value slice o i Q E s₃) E s
theorem b_SliceOf {value l u p pos} {Q : Value → Shared → Prop}
    (h : wpB M A (eval value env) (fun o s₁ => wpB M A (valueOrNone (evalOpt l env)) (fun x s₂ => wpB M A (valueOrNone (evalOpt u env)) (fun y s₃ => SliceTail M A value (.Slice l u none p) o x y Q E s₃) E s₂) E s₁) E s) :
    wpB M A (eval (.Subscript value (.Slice l u none p) pos) env) Q E s :=
  b_Subscript (b_mono h (fun _ _ h₁ => b_Slice h₁) fun _ _ z => z)
theorem b_Item {value slice pos} {Q : Value → Shared → Prop}
    (h : wpB M A (eval value env) (fun o s₁ => wpB M A (eval slice env) (fun i s₂ => ItemTail M A value slice o i Q E s₂) E s₁) E s) :
    wpB M A (eval (.Subscript value slice pos) env) Q E s := b_Subscript h

noncomputable def notSlice : Expr → Bool
  | .Slice .. => false
  | _ => true
theorem item_tail {prog : Program} {w : World} {value slice : Expr} {o i : Value} {T id : String} {Q : Value → Shared → Prop} (hT : s.TypeIs o T) (hl : typeLookup (.type T) "__getitem__" = pure (some (.builtin id)))
    (h : wpB (model prog w) A (getItem o i) Q E s) (hs : notSlice slice = true) : ItemTail (model prog w) A value slice o i Q E s := by
  unfold ItemTail
  rw [getitemInPython_of_ne hT.not_modules]
  refine b_bind (of_any (wpAny_specialOf hT hl (b_pure ?_)))
  have e : subscripted slice false o i = operate [o, i] (getItem o i) := by cases slice <;> first | rfl | cases hs
  rw [e]
  exact b_operate (b_mono h (fun r s' h' => of_any (wpAny_letTemporaryGo h')) fun _ _ z => z)
theorem slice_tail {prog : Program} {w : World} {value : Expr} {lo hi : Option Expr} {p : Pos} {o x y : Value} {T id : String} {Q : Value → Shared → Prop}
    (hl : typeLookup (.type T) "__getitem__" = pure (some (.builtin id)))
    (h : ({ s with heap := s.heap.push { cls := .type "slice", data := .fields #[x, y, .none] } } : Shared).TypeIs o T ∧ wpB (model prog w) A (getItem o (.ref s.heap.objs.size)) Q E { s with heap := s.heap.push { cls := .type "slice", data := .fields #[x, y, .none] } }) :
    SliceTail (model prog w) A value (.Slice lo hi none p) o x y Q E s := by
  unfold SliceTail ItemTail
  refine of_any (wpAny_newObj_type (T := "slice") (data := .fields #[x, y, .none]) (dict := none) ?_)
  rw [getitemInPython_of_ne h.1.not_modules]
  refine b_bind (of_any (wpAny_specialOf h.1 hl (b_pure ?_)))
  have e : ∀ i, subscripted (.Slice lo hi none p) false o i = operate [i, o] (getItem o i) := fun i => rfl
  rw [e]
  exact b_operate (b_mono h.2 (fun r s' h' => of_any (wpAny_letTemporaryGo h')) fun _ _ z => z)

theorem b_CallO {o name apos pos args} {Q : Value → Shared → Prop}
    (h : wpB M A (eval o env) (fun ov s₁ => wpB M A (getMethod ov name (do return (← importBound o env).getD true)) (fun fx s₂ => wpB M A (callWith pos fx.1 fx.2 (backTo pos (starEach args env)) []) Q E s₂) E s₁) E s)
    (hp : (apos.endLine == pos.line) = true := by rfl)
    (he : attributeBase o name env (eval o env) = eval o env := by rfl) (hf : methodCallForm (args.length + 0) (backTo pos (starEach args env)) [] = true := by rfl) :
    wpB M A (eval (.Call (.Attribute o name apos) args [] pos) env) Q E s := by
  refine b_CallM (b_mono h (fun ov s₁ h₁ => b_mono h₁ (fun fx s₂ h₂ => ?_) fun _ _ z => z) fun _ _ z => z) he hf
  have e : methodCallPos true o env apos pos = pure pos := by unfold methodCallPos; simp [hp]
  rw [e]
  exact b_pure h₂

theorem plain_args {pos : Pos} : ∀ {es : List Expr}, es.all noStar = true → ((backTo pos (starEach es env)).any (·.1) || false) = false
  | [], _ => rfl
  | e :: r, hs => by
    have hs := Bool.and_eq_true_iff.mp (List.all_cons ▸ hs)
    have e1 : starEach (e :: r) env = (false, eval e env) :: starEach r env := by cases e <;> first | rfl | cases hs.1
    rw [e1]
    have ih := plain_args (pos := pos) hs.2
    rw [Bool.or_false] at ih ⊢
    show (false || (backTo pos (starEach r env)).any (·.1)) = false
    rw [Bool.false_or]; exact ih
theorem b_argsOf {f : Value} {args : List Expr} {pos : Pos} {Q : Args → Shared → Prop} (hs : args.all noStar = true)
    (h : wpB M A (spliced (backTo pos (starEach args env))) (fun vs s₁ => Q ⟨vs, []⟩ s₁) E s) : wpB M A (evalArgs f true (backTo pos (starEach args env)) []) Q E s := by
  cases args with
  | nil =>
    intro Γ p hΓ hc
    exact b_evalArgs0 (Q := Q) (h Γ p hΓ hc) Γ p hΓ hc
  | cons e rest => exact b_evalArgs (Bool.and_eq_true_iff.mp (List.all_cons ▸ hs)).1 h
/-- a built-in thing is called -/
theorem b_cwB {f : Value} {first : List Value} {args : List Expr} {pos : Pos} {Q : Value → Shared → Prop}
    (h : wpB M A (spliced (backTo pos (starEach args env))) (fun vs s₁ => wpB M A (call f (first ++ vs)) Q E s₁) E s) (hk : keeperOf f = pure .machine := by rfl) (hs : args.all noStar = true := by rfl) :
    wpB M A (callWith pos f first (backTo pos (starEach args env)) []) Q E s :=
  b_callWith (plain_args hs) (b_argsOf hs (b_mono h (fun _ _ h₁ => ⟨⟨_, .inr (.inl rfl), Looks.of_pure hk⟩, h₁⟩) fun _ _ z => z))
end

section
variable {prog : Program} {w : World} {A : Around} {E : Value → Shared → Prop} {base h₀ h : Heap} {l₀ l : List Item} {L : Addr} {g : Array GenState} {d : Drawn} {tk : Nat} {os : OsState} {ls : List (Str × Value)} {a : Addr} {cl : List (Str × Addr)} {s : Shared} {env : Env}

/-- a def (or a class) of the text is called -/
theorem b_cwK {f : Addr} {first : List Value} {args : List Expr} {pos : Pos} {Q : Value → Shared → Prop} (hk : keepIn (KW w.params) (.ref f) = true)
    (h : wpB (model prog w) A (spliced (backTo pos (starEach args env))) (fun vs s₁ => (KW w.params).In s₁.heap ∧ wpB (model prog w) A (call (.ref f) (first ++ vs)) Q E s₁) E s) (hs : args.all noStar = true := by rfl) :
    wpB (model prog w) A (callWith pos (.ref f) first (backTo pos (starEach args env)) []) Q E s :=
  b_callWith (plain_args hs) (b_argsOf hs (b_mono h (fun _ s₁ h₁ => ⟨keeps_K hk s₁.heap h₁.1, h₁.2⟩) fun _ _ z => z))

/-- a built-in, by its name -/
theorem b_callBlt {x : Str} {xpos pos : Pos} {args : List Expr} {v : Value} {Q : Value → Shared → Prop} (S : Stat w base) (D : Led base h₀ l₀ L h (Vars ls) l) (hv : bootBuiltins x = some v)
    (k : wpB (model prog w) A (spliced (backTo pos (starEach args (envK w.params a L cl)))) (fun vs s₁ => wpB (model prog w) A (call v vs) Q E s₁) E ⟨h, g, d, tk, os⟩)
    (hm : nsIn (KW w.params) mainGlobals x = some none := by kernel_rfl) (hn : x ≠ "__name__" := by decide) (hq : keeperOf v = pure .machine := by rfl) (hs : args.all noStar = true := by rfl)
    (hk : (fdK w.params a).scope.kind = .function := by kernel_rfl) (hl : (fdK w.params a).scope.names.lookup x = some .globalImplicit := by kernel_rfl) (hd : (x == ("__debug__" : Str)) = false := by decide) :
    wpB (model prog w) A (eval (.Call (.Name x xpos) args [] pos) (envK w.params a L cl)) Q E ⟨h, g, d, tk, os⟩ :=
  b_CallN (b_blt S D hm hv hn (b_cwB k hq hs) hk hl hd)
/-- a def of the text, by its name -/
theorem b_callDef {x : Str} {xpos pos : Pos} {args : List Expr} {f : Addr} {Q : Value → Shared → Prop} (S : Stat w base) (D : Led base h₀ l₀ L h (Vars ls) l)
    (hv : nsIn (KW w.params) mainGlobals x = some (some (.ref f))) (hf : keepIn (KW w.params) (.ref f) = true)
    (k : wpB (model prog w) A (spliced (backTo pos (starEach args (envK w.params a L cl)))) (fun vs s₁ => (KW w.params).In s₁.heap ∧ wpB (model prog w) A (call (.ref f) vs) Q E s₁) E ⟨h, g, d, tk, os⟩)
    (hs : args.all noStar = true := by rfl)
    (hk : (fdK w.params a).scope.kind = .function := by kernel_rfl) (hl : (fdK w.params a).scope.names.lookup x = some .globalImplicit := by kernel_rfl) (hd : (x == ("__debug__" : Str)) = false := by decide) :
    wpB (model prog w) A (eval (.Call (.Name x xpos) args [] pos) (envK w.params a L cl)) Q E ⟨h, g, d, tk, os⟩ :=
  b_CallN (b_global S D hv (b_cwK (first := []) hf k hs) hk hl hd)

/-! constants -/
theorem b_int {i : Int} {k pos} {Q : Value → Shared → Prop} (h' : Q (.int i tk) ⟨h, g, d, tk + 1, os⟩) : wpB (model prog w) A (eval (.Constant (.int i) k pos) env) Q E ⟨h, g, d, tk, os⟩ := fun _ _ _ _ => h'
theorem b_none {k pos} {Q : Value → Shared → Prop} (h' : Q .none s) : wpB (model prog w) A (eval (.Constant .none k pos) env) Q E s := fun _ _ _ _ => h'
theorem b_bool {b : Bool} {k pos} {Q : Value → Shared → Prop} (h' : Q (.bool b) s) : wpB (model prog w) A (eval (.Constant (.bool b) k pos) env) Q E s := fun _ _ _ _ => h'
theorem b_bytes {x : List UInt8} {k pos} {Q : Value → Shared → Prop} (h' : Q (.bytes x.toArray tk) ⟨h, g, d, tk + 1, os⟩) : wpB (model prog w) A (eval (.Constant (.bytes x) k pos) env) Q E ⟨h, g, d, tk, os⟩ := fun _ _ _ _ => h'

/-! bytearrays of the ledger -/
theorem l_len {i : Nat} {x : Addr} {b : Array UInt8} {Q : Value → Shared → Prop} (D : Led base h₀ l₀ L h (Vars ls) l) (hi : l[i]? = some (x, baP b)) (hz : b.size ≤ 1000000)
    (k : ∀ t tk', Q (.int b.size t) ⟨h, g, d, tk', os⟩) : wpB (model prog w) A (call (.builtin "len") [.ref x]) Q E ⟨h, g, d, tk, os⟩ := by
  obtain ⟨o, ho, hP⟩ := D.at hi
  exact of_any (ba_len_of (s := ⟨h, g, d, tk, os⟩) ho hP hz (k _ _))
theorem l_item {i : Nat} {x : Addr} {b : Array UInt8} {c : UInt8} {j : Int} {u : Tok} {value slice : Expr} {Q : Value → Shared → Prop} (D : Led base h₀ l₀ L h (Vars ls) l) (hi : l[i]? = some (x, baP b)) (hz : b.size ≤ 1000000)
    (h0 : 0 ≤ j) (hx : b[j.toNat]? = some c) (k : ∀ t tk', Q (.int c.toNat t) ⟨h, g, d, tk', os⟩) (hs : notSlice slice = true := by rfl) :
    ItemTail (model prog w) A value slice (.ref x) (.int j u) Q E ⟨h, g, d, tk, os⟩ := by
  obtain ⟨o, ho, hP⟩ := D.at hi
  exact item_tail (baP.typeIs (s := ⟨h, g, d, tk, os⟩) ho hP) slot_ba_getitem.lookup (of_any (ba_item_of (s := ⟨h, g, d, tk, os⟩) ho hP h0 hz hx (k _ _))) hs
theorem l_slice {i : Nat} {x : Addr} {b : Array UInt8} {lo up : Option Expr} {p : Pos} {u v : Value} {lo' hi' : Option Int} {value : Expr} {Q : Value → Shared → Prop} (D : Led base h₀ l₀ L h (Vars ls) l) (hi : l[i]? = some (x, baP b))
    (pu : IsPart u lo') (pv : IsPart v hi') (hz : (KBy.picked b lo' hi').size ≤ 1000000)
    (k : ∀ n h' tk', Led base h₀ l₀ L h' (Vars ls) ((n, baP (KBy.picked b lo' hi')) :: l) → Q (.ref n) ⟨h', g, d, tk', os⟩) :
    SliceTail (model prog w) A value (.Slice lo up none p) (.ref x) u v Q E ⟨h, g, d, tk, os⟩ := by
  obtain ⟨o, ho, hP⟩ := D.at hi
  have ho' := Heap.get?_push_of_some (Obj.mk (.type "slice") none (.fields #[u, v, .none]) #[]) ho
  have D1 := D.grow (h' := h.push { cls := .type "slice", data := .fields #[u, v, .none] }) fun b o' e => Heap.get?_push_of_some _ e
  refine slice_tail slot_ba_getitem.lookup ⟨baP.typeIs (s := ⟨h.push _, g, d, tk, os⟩) ho' hP, of_any (ba_slice (s := ⟨h.push { cls := .type "slice", data := .fields #[u, v, .none] }, g, d, tk, os⟩) ho' hP (Heap.IsSliceOf.new ..) pu pv hz ?_)⟩
  exact k _ _ _ (D1.push _ ⟨rfl, rfl, rfl⟩)
theorem l_append {i : Nat} {x : Addr} {b : Array UInt8} {n : Int} {t : Tok} {Q : Value → Shared → Prop} (D : Led base h₀ l₀ L h (Vars ls) l) (hi : l[i]? = some (x, baP b)) (hn : 0 ≤ n) (hn' : n < 256) (hz : b.size < 1000000)
    (k : ∀ h' tk', Led base h₀ l₀ L h' (Vars ls) (l.set i (x, baP (b.push n.toNat.toUInt8))) → Q .none ⟨h', g, d, tk', os⟩) :
    wpB (model prog w) A (call (.builtin "bytearray.append") [.ref x, .int n t]) Q NoE ⟨h, g, d, tk, os⟩ := by
  obtain ⟨o, ho, hP⟩ := D.at hi
  exact ba_append (s := ⟨h, g, d, tk, os⟩) ho hP hn hn' hz fun h' o' hs ho' hP' => k _ _ (D.upd hi hs ho' hP')
theorem l_extendB {i : Nat} {x : Addr} {b c : Array UInt8} {t : Tok} {Q : Value → Shared → Prop} (D : Led base h₀ l₀ L h (Vars ls) l) (hi : l[i]? = some (x, baP b)) (hz : b.size + c.size ≤ 1000000)
    (k : ∀ h' tk', Led base h₀ l₀ L h' (Vars ls) (l.set i (x, baP (b ++ c))) → Q .none ⟨h', g, d, tk', os⟩) :
    wpB (model prog w) A (call (.builtin "bytearray.extend") [.ref x, .bytes c t]) Q NoE ⟨h, g, d, tk, os⟩ := by
  obtain ⟨o, ho, hP⟩ := D.at hi
  exact ba_extend_bytes (s := ⟨h, g, d, tk, os⟩) ho hP hz fun h' o' hs ho' hP' => k _ _ (D.upd hi hs ho' hP')
theorem l_extendA {i j : Nat} {x y : Addr} {b c : Array UInt8} {Q : Value → Shared → Prop} (D : Led base h₀ l₀ L h (Vars ls) l) (hi : l[i]? = some (x, baP b)) (hj : l[j]? = some (y, baP c)) (hz : b.size + c.size ≤ 1000000)
    (k : ∀ h' tk', Led base h₀ l₀ L h' (Vars ls) (l.set i (x, baP (b ++ c))) → Q .none ⟨h', g, d, tk', os⟩) :
    wpB (model prog w) A (call (.builtin "bytearray.extend") [.ref x, .ref y]) Q NoE ⟨h, g, d, tk, os⟩ := by
  obtain ⟨o, ho, hP⟩ := D.at hi
  obtain ⟨o₂, ho₂, hP₂⟩ := D.at hj
  exact ba_extend_ba (s := ⟨h, g, d, tk, os⟩) ho hP ho₂ hP₂ hz fun h' o' hs ho' hP' => k _ _ (D.upd hi hs ho' hP')
theorem l_bytes {i : Nat} {x : Addr} {b : Array UInt8} {Q : Value → Shared → Prop} (D : Led base h₀ l₀ L h (Vars ls) l) (hi : l[i]? = some (x, baP b)) (hz : b.size ≤ 1000000)
    (k : ∀ t tk', Q (.bytes b t) ⟨h, g, d, tk', os⟩) : wpB (model prog w) A (call (.type "bytes") [.ref x]) Q E ⟨h, g, d, tk, os⟩ := by
  obtain ⟨o, ho, hP⟩ := D.at hi
  exact of_any (bytes_of_ba (s := ⟨h, g, d, tk, os⟩) ho hP hz (k _ _))
theorem l_make {Q : Value → Shared → Prop} (D : Led base h₀ l₀ L h (Vars ls) l) (k : ∀ n h' tk', Led base h₀ l₀ L h' (Vars ls) ((n, baP #[]) :: l) → Q (.ref n) ⟨h', g, d, tk', os⟩) :
    wpB (model prog w) A (call (.type "bytearray") []) Q NoE ⟨h, g, d, tk, os⟩ :=
  ba_make (s := ⟨h, g, d, tk, os⟩) fun h' o' hs ho' hP' => k _ _ _
    ((D.push (Obj.mk (.type "bytearray") none (.bytearray #[]) #[]) (P := baP #[]) ⟨rfl, rfl, rfl⟩).upd (i := 0) rfl hs ho' hP')
/-- a method of a bytearray is looked up -/
theorem l_baMeth {i : Nat} {x : Addr} {b : Array UInt8} {name : Str} {id : String} {pl : Sem Bool} {Q : Value × List Value → Shared → Prop} (D : Led base h₀ l₀ L h (Vars ls) l) (hi : l[i]? = some (x, baP b))
    (slot : Slot "bytearray" name id) (hty : typeOf (.builtin id) = pure (.type "method_descriptor")) (k : Q (.builtin id, [.ref x]) ⟨h, g, d, tk, os⟩) : wpB (model prog w) A (getMethod (.ref x) name pl) Q E ⟨h, g, d, tk, os⟩ := by
  obtain ⟨o, ho, hP⟩ := D.at hi
  exact of_any (getMethod_builtin (s := ⟨h, g, d, tk, os⟩) (baP.typeIs (s := ⟨h, g, d, tk, os⟩) ho hP) plainAttrs_ba slot hty (fun y e => by cases e; exact ⟨o, ho, hP.2.1⟩) k)

/-! comparisons -/
theorem b_cmpInt {op : CmpOp} {x y : Int} {t u : Tok} {r : Bool} {Q : Value → Shared → Prop} (h : ∀ (A : Around) (Q : Value → Shared → Prop) (E : Value → Shared → Prop) (s : Shared), Q (.bool r) s → wpAny M A (compareOp op (.int x t) (.int y u)) Q E s) (k : Q (.bool r) s) :
    wpB M A (compareOp op (.int x t) (.int y u)) Q E s := of_any (h _ _ _ _ k)
end
end Mine
end

noncomputable section
namespace Mine
open PySem PySem.Calls PyProof.Rows PySem.W

noncomputable def body69 : List Stmt := inner (nth (inner (topSt 5)) 7)
noncomputable def body76 : List Stmt := inner (nth (inner (topSt 5)) 8)
noncomputable def body83 : List Stmt := inner (nth (inner (topSt 5)) 9)
noncomputable def body90 : List Stmt := inner (nth (inner (topSt 5)) 10)
noncomputable def body97 : List Stmt := inner (nth (inner (topSt 5)) 11)
noncomputable def body180 : List Stmt := inner (nth (inner (topSt 6)) 7)
noncomputable def body187 : List Stmt := inner (nth (inner (topSt 6)) 8)
noncomputable def body194 : List Stmt := inner (nth (inner (topSt 6)) 9)
noncomputable def body201 : List Stmt := inner (nth (inner (topSt 6)) 10)
noncomputable def body208 : List Stmt := inner (nth (inner (topSt 6)) 11)
noncomputable def body215 : List Stmt := inner (nth (inner (topSt 6)) 12)
theorem body_69 (P : Params) : bodyK P 69 = body69 := by kernel_rfl
theorem body_76 (P : Params) : bodyK P 76 = body76 := by kernel_rfl
theorem body_83 (P : Params) : bodyK P 83 = body83 := by kernel_rfl
theorem body_90 (P : Params) : bodyK P 90 = body90 := by kernel_rfl
theorem body_97 (P : Params) : bodyK P 97 = body97 := by kernel_rfl
theorem body_180 (P : Params) : bodyK P 180 = body180 := by kernel_rfl
theorem body_187 (P : Params) : bodyK P 187 = body187 := by kernel_rfl
theorem body_194 (P : Params) : bodyK P 194 = body194 := by kernel_rfl
theorem body_201 (P : Params) : bodyK P 201 = body201 := by kernel_rfl
theorem body_208 (P : Params) : bodyK P 208 = body208 := by kernel_rfl
theorem body_215 (P : Params) : bodyK P 215 = body215 := by kernel_rfl

/-- room on the stack -/
structure Room (A : Around) (n : Nat) : Prop where
  depth : A.depth + n ≤ 500
  hand : A.handled = none
  units : A.units + 3 * n ≤ 5000
theorem Room.lim {A : Around} {n : Nat} (R : Room A n) : A.depth < recursionLimit := by
  have h1 := R.depth
  have : recursionLimit = 1000 := rfl
  omega
theorem Room.deeper {A : Around} {n : Nat} {env : Env} (R : Room A (n + 1)) : Room (A.deeper env) n :=
  ⟨by have h1 := R.depth; show A.depth + 1 + n ≤ 500; omega, R.hand, by have h1 := R.units; show A.units + 3 + 3 * n ≤ 5000; omega⟩
theorem Room.less {A : Around} {n m : Nat} (R : Room A n) (h : m ≤ n) : Room A m := ⟨by have h1 := R.depth; omega, R.hand, by have h1 := R.units; omega⟩
theorem Room.cline {A : Around} {n : Nat} (R : Room A n) : A.units + 64 < cLine := by
  have h1 := R.units
  have : cLine = 9900 := rfl
  omega

/-! the devices -/
structure DevA where
  u : Addr
  du : Addr
  ao : Addr
  aw : Addr
  c : Addr
  dc : Addr
  ar : Addr
  al : Addr
  T : Nat → Tok

noncomputable def uartRows (T : Nat → Tok) (ao aw : Addr) : List (Str × Value) :=
  [("size", .int 4 (T 0)), ("out", .ref ao), ("waiting", .ref aw), ("enabled", .int 0 (T 1)), ("line", .int 0 (T 2)), ("divisor", .int 0 (T 3)), ("lost", .bool false), ("sent", .bool false)]
noncomputable def conRows (T : Nat → Tok) (u ar al : Addr) : List (Str × Value) := [("uart", .ref u), ("size", .int 40 (T 4)), ("ready", .ref ar), ("line", .ref al)]
noncomputable def dev (P : Params) (Δ : DevA) (out wait ready line : List UInt8) : List Item :=
  [(Δ.u, instP 156 Δ.du), (Δ.du, rowsP P (uartRows Δ.T Δ.ao Δ.aw)), (Δ.ao, baP out.toArray), (Δ.aw, baP wait.toArray),
   (Δ.c, instP 218 Δ.dc), (Δ.dc, rowsP P (conRows Δ.T Δ.u Δ.ar Δ.al)), (Δ.ar, baP ready.toArray), (Δ.al, baP line.toArray)]
theorem put_waiting (T : Nat → Tok) (ao aw n : Addr) : putRow "waiting" (.ref n) (uartRows T ao aw) = uartRows T ao n := by kernel_rfl
theorem put_out (T : Nat → Tok) (ao aw n : Addr) : putRow "out" (.ref n) (uartRows T ao aw) = uartRows T n aw := by kernel_rfl
theorem put_ready (T : Nat → Tok) (u ar al n : Addr) : putRow "ready" (.ref n) (conRows T u ar al) = conRows T u n al := by kernel_rfl
theorem put_line (T : Nat → Tok) (u ar al n : Addr) : putRow "line" (.ref n) (conRows T u ar al) = conRows T u ar n := by kernel_rfl


theorem picked_drop (l : List UInt8) (n : Nat) (hn : n ≤ l.length) : KBy.picked l.toArray (some (n : Int)) none = (l.drop n).toArray := by
  rw [KBc.picked_eq]
  simp only [Option.elim_some, Option.elim_none, List.size_toArray]
  rw [clipAt_nat, Nat.min_eq_left hn, List.take_of_length_le]
  simp
theorem picked_take (l : List UInt8) (n : Nat) (hn : n ≤ l.length) : KBy.picked l.toArray none (some (n : Int)) = (l.take n).toArray := by
  rw [KBc.picked_eq]
  simp only [Option.elim_some, Option.elim_none, List.size_toArray]
  rw [clipAt_nat, Nat.min_eq_left hn]
  simp

section
variable {base h₀ h h' : Heap} {l₀ l l' : List Item} {L : Addr} {m : Str → Option Value}
theorem Led.call0 (D : Led base h₀ l₀ L h m l) (O : Own base h' l') (S : Step h h' l l') : Led base h₀ l₀ L h' m l' := by
  have D' : Led base h₀ l₀ L h m (l ++ []) := by rw [List.append_nil]; exact D
  have := D'.call O S
  rwa [List.append_nil] at this
end

section
variable {prog : Program} {w : World} {A : Around} {E : Value → Shared → Prop} {base h₀ h : Heap} {l₀ l : List Item} {L : Addr} {g : Array GenState} {d : Drawn} {tk : Nat} {os : OsState} {ls : List (Str × Value)} {a : Addr} {cl : List (Str × Addr)} {s : Shared} {env : Env}
  {Δ : DevA} {out wait ready line : List UInt8}

theorem send_spec {octs : List UInt8} {t : Tok} {Q : Value → Shared → Prop} (S : Stat w base) (R : Room A 1)
    (O : Own base h (dev w.params Δ out wait ready line)) (hz : out.length + octs.length ≤ 1000000)
    (k : ∀ h' tk', Own base h' (dev w.params Δ (out ++ octs) wait ready line) → Step h h' (dev w.params Δ out wait ready line) (dev w.params Δ (out ++ octs) wait ready line) → Q .none ⟨h', g, d, tk', os⟩) :
    wpB (model prog w) A (call (.ref 90) [.ref Δ.u, .bytes octs.toArray t]) Q NoE ⟨h, g, d, tk, os⟩ := by
  refine b_callK (a := 90) S O (by kernel_rfl) R.lim (binds := [(Str.ofString "self", .ref Δ.u), (Str.ofString "octets", .bytes octs.toArray t)]) (by kernel_rfl) (by kernel_rfl) fun h₁ tk₁ D => ?_
  rw [body_90]
  refine b_execs_cons ?_
  refine b_Expr ?_ (by kernel_rfl) (by kernel_rfl)
  refine b_CallO ?_
  refine b_AttributeN ?_
  refine b_local D rfl ?_
  refine b_get 0 1 S D rfl rfl rfl (by kernel_rfl) rfl ?_
  refine l_baMeth (i := 2) D rfl slot_ba_extend type_ba_extend ?_
  dsimp only
  refine b_cwB ?_
  refine b_args ?_
  refine b_local D rfl ?_
  refine b_args_nil ?_
  refine l_extendB (i := 2) D rfl (by simpa using hz) fun h₂ tk₂ D => ?_
  refine ⟨(by nofun), b_execs_nil ?_⟩
  rw [List.append_toArray] at D
  exact k _ _ D.own D.step

theorem receive_nil {Q : Value → Shared → Prop} (S : Stat w base) (R : Room A 1)
    (O : Own base h (dev w.params Δ out [] ready line))
    (k : ∀ h' tk', Own base h' (dev w.params Δ out [] ready line) → Step h h' (dev w.params Δ out [] ready line) (dev w.params Δ out [] ready line) → Q .none ⟨h', g, d, tk', os⟩) :
    wpB (model prog w) A (call (.ref 97) [.ref Δ.u]) Q NoE ⟨h, g, d, tk, os⟩ := by
  refine b_callK (a := 97) S O (by kernel_rfl) R.lim (binds := [(Str.ofString "self", .ref Δ.u)]) (by kernel_rfl) (by kernel_rfl) fun h₁ tk₁ D => ?_
  rw [body_97]
  refine b_execs_cons ?_
  refine b_If ?_
  refine b_isTrue_Compare ?_
  refine b_callBlt S D PySem.boot_len ?_
  refine b_args ?_
  refine b_AttributeN ?_
  refine b_local D rfl ?_
  refine b_get 0 1 S D rfl rfl rfl (by kernel_rfl) rfl ?_
  refine b_args_nil ?_
  refine l_len (i := 3) D rfl (by simp) fun t tk₂ => ?_
  refine b_int ?_
  refine of_any (eq_int ?_)
  refine b_truthy_bool ?_
  rw [if_pos (by simp)]
  refine b_execs_cons (b_Return_some (b_none ?_))
  exact k _ _ D.own D.step

theorem receive_cons {x : UInt8} {r : List UInt8} {Q : Value → Shared → Prop} (S : Stat w base) (R : Room A 1)
    (O : Own base h (dev w.params Δ out (x :: r) ready line)) (hz : r.length ≤ 1000)
    (k : ∀ n h' tk' t, Own base h' (dev w.params { Δ with aw := n } out r ready line) → Step h h' (dev w.params Δ out (x :: r) ready line) (dev w.params { Δ with aw := n } out r ready line) → Q (.int x.toNat t) ⟨h', g, d, tk', os⟩) :
    wpB (model prog w) A (call (.ref 97) [.ref Δ.u]) Q NoE ⟨h, g, d, tk, os⟩ := by
  refine b_callK (a := 97) S O (by kernel_rfl) R.lim (binds := [(Str.ofString "self", .ref Δ.u)]) (by kernel_rfl) (by kernel_rfl) fun h₁ tk₁ D => ?_
  rw [body_97]
  refine b_execs_cons ?_
  refine b_If ?_
  refine b_isTrue_Compare ?_
  refine b_callBlt S D PySem.boot_len ?_
  refine b_args ?_
  refine b_AttributeN ?_
  refine b_local D rfl ?_
  refine b_get 0 1 S D rfl rfl rfl (by kernel_rfl) rfl ?_
  refine b_args_nil ?_
  refine l_len (i := 3) D rfl (by simp; omega) fun t tk₂ => ?_
  refine b_int ?_
  refine of_any (eq_int ?_)
  refine b_truthy_bool ?_
  rw [if_neg (by simp; omega)]
  refine b_execs_nil ?_
  -- found = self.waiting[0]
  refine b_execs_cons ?_
  refine b_Assign ?_ (by kernel_rfl) (by kernel_rfl)
  refine b_Item ?_
  refine b_AttributeN ?_
  refine b_local D rfl ?_
  refine b_get 0 1 S D rfl rfl rfl (by kernel_rfl) rfl ?_
  refine b_int ?_
  refine l_item (i := 3) (c := x) D rfl (by simp; omega) (by decide) (by simp) fun t' tk₃ => ?_
  refine b_assign_Name ?_
  refine b_store D fun h₂ tk₄ D => ?_
  -- self.waiting = self.waiting[1:]
  refine b_execs_cons ?_
  refine b_Assign ?_ (by kernel_rfl) (by kernel_rfl)
  refine b_SliceOf ?_
  refine b_AttributeN ?_
  refine b_local D rfl ?_
  refine b_get 0 1 S D rfl rfl rfl (by kernel_rfl) rfl ?_
  refine b_part_some (b_int ?_)
  refine b_part_none ?_
  refine l_slice (i := 3) D rfl (.int _ _) .none ?_ fun n h₃ tk₅ D => ?_
  · exact Nat.le_trans (KBc.size_picked_le _ _ _) (by simp; omega)
  refine b_assign_Attribute ?_
  refine b_local D rfl ?_
  refine b_set 1 2 S D rfl rfl (by kernel_rfl) (by simp [uartRows]) fun h₄ tk₆ D => ?_
  refine b_execs_cons (b_Return_some ?_)
  refine b_local D rfl ?_
  have D := D.pick [1, 2, 3, 0, 5, 6, 7, 8]
  rw [put_waiting] at D
  have e : KBy.picked (x :: r).toArray (some 1) none = r.toArray := picked_drop (x :: r) 1 (by simp)
  rw [e] at D
  exact k n _ _ _ D.own D.step
end
end Mine
end

noncomputable section
namespace Mine
open PySem PySem.Calls PyProof.Rows PySem.W

/-! lists of the ledger -/
noncomputable def lstP (vs : List Value) : Obj → Prop := fun o => ∃ n, o = { cls := .type "list", dict := none, data := .seq vs.toArray n, slots := #[] }
noncomputable def ilP (ns : List Int) : Obj → Prop := fun o => ∃ vs, IntsAre vs ns ∧ lstP vs o
noncomputable def bitP (b : Array UInt8) (t : Tok) (i : Nat) : Obj → Prop := fun o => o.cls = .type "bytes_iterator" ∧ o.data = .fields #[.bytes b t, .int i 0]
noncomputable def litP (la : Addr) (i : Nat) : Obj → Prop := fun o => o.cls = .type "list_iterator" ∧ o.data = .fields #[.ref la, .int i 0]
noncomputable def ritP (n i : Nat) : Obj → Prop := fun o => o = { cls := .type "range_iterator", dict := none, data := .fields #[rawInt (0 + (i : Nat) * 1), rawInt ((n : Int) - (i : Nat)), rawInt 1], slots := #[] }

/-- an iterator of the ledger: `itP i` what it is ahead of its turn `i`, `side` what else must lie in the ledger -/
structure Nexts (prog : Program) (w : World) (A : Around) (it : Addr) (itP : Nat → Obj → Prop) (side : List Item → Prop) (n : Nat) (V : Nat → Value → Prop) : Prop where
  item : ∀ (base h₀ : Heap) (l₀ : List Item) (L : Addr) (h : Heap) (m : Str → Option Value) (l : List Item) (g : Array GenState) (d : Drawn) (tk : Nat) (os : OsState) (i : Nat) (Q : Option Value → Shared → Prop),
    i < n → side l → Led base h₀ l₀ L h m ((it, itP i) :: l) →
    (∀ v h' tk', V i v → Led base h₀ l₀ L h' m ((it, itP (i + 1)) :: l) → Q (some v) ⟨h', g, d, tk', os⟩) → wpB (model prog w) A (pyNext (.ref it)) Q NoE ⟨h, g, d, tk, os⟩
  done : ∀ (base h₀ : Heap) (l₀ : List Item) (L : Addr) (h : Heap) (m : Str → Option Value) (l : List Item) (g : Array GenState) (d : Drawn) (tk : Nat) (os : OsState) (Q : Option Value → Shared → Prop),
    side l → Led base h₀ l₀ L h m ((it, itP n) :: l) →
    (∀ h' tk', Led base h₀ l₀ L h' m l → Q none ⟨h', g, d, tk', os⟩) → wpB (model prog w) A (pyNext (.ref it)) Q NoE ⟨h, g, d, tk, os⟩

section
variable {prog : Program} {w : World} {A : Around} {E : Value → Shared → Prop} {base h₀ h : Heap} {l₀ l : List Item} {L : Addr} {g : Array GenState} {d : Drawn} {tk : Nat} {os : OsState} {ls : List (Str × Value)} {a : Addr} {cl : List (Str × Addr)} {s : Shared} {env : Env} {m : Str → Option Value}

theorem nexts_bytes (hh : A.handled = none) (it : Addr) (b : List UInt8) (t : Tok) : Nexts prog w A it (bitP b.toArray t) (fun _ => True) b.length (fun i v => ∃ c u, b[i]? = some c ∧ v = .int (c.toNat : Int) u) where
  item := fun base h₀ l₀ L h m l g d tk os i Q hi _ D k => by
    obtain ⟨o, ho, hc, hd⟩ := D.at (i := 0) rfl
    refine of_any (KBw.next_item (s := ⟨h, g, d, tk, os⟩) (i := i) ⟨o, ho, hc, hd⟩ (c := b[i]) (by simp [hi]) fun h' hit' hs' => ?_)
    obtain ⟨o', ho', hc', hd'⟩ := hit'
    exact k _ _ _ ⟨_, _, by simp [hi], rfl⟩ (D.upd (i := 0) rfl hs' ho' ⟨hc', hd'⟩)
  done := fun base h₀ l₀ L h m l g d tk os Q _ D k => by
    obtain ⟨o, ho, hc, hd⟩ := D.at (i := 0) rfl
    exact of_any (KBw.next_end (s := ⟨h, g, d, tk, os⟩) (i := b.length) hh ⟨o, ho, hc, hd⟩ (by simp) fun h' hs => k _ _ (D.extBut hs))

theorem nexts_list (hh : A.handled = none) (it la : Addr) (vs : List Value) : Nexts prog w A it (litP la) (fun l => (la, lstP vs) ∈ l) vs.length (fun i v => vs[i]? = some v) where
  item := fun base h₀ l₀ L h m l g d tk os i Q hi hsd D k => by
    obtain ⟨o, ho, hc, hd⟩ := D.at (i := 0) rfl
    obtain ⟨ol, hol, nl, rfl⟩ := D.own.get _ (List.mem_cons_of_mem _ hsd)
    refine of_any (wpAny_pyNext_list_item (s := ⟨h, g, d, tk, os⟩) (i := i) (items := vs.toArray) ⟨o, ho, hc, hd⟩ ⟨_, hol, rfl, _, rfl⟩ (x := vs[i]) (by simp [hi]) fun h' hit' hs' => ?_)
    obtain ⟨o', ho', hc', hd'⟩ := hit'
    exact k _ _ _ (by simp [hi]) (D.upd (i := 0) rfl hs' ho' ⟨hc', hd'⟩)
  done := fun base h₀ l₀ L h m l g d tk os Q hsd D k => by
    obtain ⟨o, ho, hc, hd⟩ := D.at (i := 0) rfl
    obtain ⟨ol, hol, nl, rfl⟩ := D.own.get _ (List.mem_cons_of_mem _ hsd)
    exact of_any (wpAny_pyNext_list_end (s := ⟨h, g, d, tk, os⟩) (i := vs.length) (items := vs.toArray) hh ⟨o, ho, hc, hd⟩ ⟨_, hol, rfl, _, rfl⟩ (by simp) fun h' hs => k _ _ (D.extBut hs))

theorem nexts_range (hh : A.handled = none) (it : Addr) (n : Nat) : Nexts prog w A it (ritP n) (fun _ => True) n (fun i v => ∃ t, v = .int (i : Int) t) where
  item := fun base h₀ l₀ L h m l g d tk os i Q hi _ D k => by
    obtain ⟨o, ho, rfl⟩ := D.at (i := 0) rfl
    refine of_any (wpAny_pyNext_range_item (s := ⟨h, g, d, tk, os⟩) ho (by omega) fun h' hit' hs' => ?_)
    refine k _ _ _ ⟨_, by rw [show (0 : Int) + (i : Nat) * 1 = (i : Int) by omega]⟩ (D.upd (i := 0) rfl hs' hit' ?_)
    show _ = _
    have e1 : (0 : Int) + ((i + 1 : Nat) : Int) * 1 = 0 + (i : Int) * 1 + 1 := by omega
    have e2 : (n : Int) - ((i + 1 : Nat) : Int) = (n : Int) - (i : Int) - 1 := by omega
    rw [e1, e2]
  done := fun base h₀ l₀ L h m l g d tk os Q _ D k => by
    obtain ⟨o, ho, rfl⟩ := D.at (i := 0) rfl
    exact of_any (wpAny_pyNext_range_end (s := ⟨h, g, d, tk, os⟩) hh ho (by omega) fun h' hs => k _ _ (D.extBut hs))

/-- the iterators are made -/
theorem l_iterBytes {b : List UInt8} {t : Tok} {Q : Value → Shared → Prop} (D : Led base h₀ l₀ L h m l)
    (k : ∀ it h' tk', Led base h₀ l₀ L h' m ((it, bitP b.toArray t 0) :: l) → Q (.ref it) ⟨h', g, d, tk', os⟩) : wpB (model prog w) A (pyIter (.bytes b.toArray t)) Q E ⟨h, g, d, tk, os⟩ :=
  of_any (KBw.pyIter_bytes (s := ⟨h, g, d, tk, os⟩) (k _ _ _ (D.push _ ⟨rfl, rfl⟩)))
theorem l_iterList {la : Addr} {vs : List Value} {Q : Value → Shared → Prop} (D : Led base h₀ l₀ L h m l) (hl : (la, lstP vs) ∈ l)
    (k : ∀ it h' tk', Led base h₀ l₀ L h' m ((it, litP la 0) :: l) → Q (.ref it) ⟨h', g, d, tk', os⟩) : wpB (model prog w) A (pyIter (.ref la)) Q E ⟨h, g, d, tk, os⟩ := by
  obtain ⟨ol, hol, nl, rfl⟩ := D.own.get _ hl
  exact of_any (wpAny_pyIter_list (s := ⟨h, g, d, tk, os⟩) (items := vs.toArray) ⟨_, hol, rfl, _, rfl⟩ (k _ _ _ (D.push _ ⟨rfl, rfl⟩)))
/-- a list of the ledger, its items named -/
theorem Led.ints (D : Led base h₀ l₀ L h m l) {i : Nat} {x : Addr} {ns : List Int} (hi : l[i]? = some (x, ilP ns)) : ∃ vs, IntsAre vs ns ∧ Led base h₀ l₀ L h m (l.set i (x, lstP vs)) := by
  obtain ⟨o, ho, vs, hv, hP⟩ := D.at hi
  refine ⟨vs, hv, D.weaken _ (map_fst_set l i x _ _ hi) fun p hp => ?_⟩
  obtain ⟨j, hj⟩ := List.mem_iff_getElem?.mp hp
  rw [List.getElem?_set] at hj
  split at hj
  · split at hj
    · cases hj; exact ⟨o, ho, hP⟩
    · cases hj
  · exact D.own.get p (List.mem_of_getElem? hj)
theorem Led.intsBack (D : Led base h₀ l₀ L h m l) {i : Nat} {x : Addr} {vs : List Value} {ns : List Int} (hv : IntsAre vs ns) (hi : l[i]? = some (x, lstP vs)) : Led base h₀ l₀ L h m (l.set i (x, ilP ns)) := by
  obtain ⟨o, ho, hP⟩ := D.at hi
  refine D.weaken _ (map_fst_set l i x _ _ hi) fun p hp => ?_
  obtain ⟨j, hj⟩ := List.mem_iff_getElem?.mp hp
  rw [List.getElem?_set] at hj
  split at hj
  · split at hj
    · cases hj; exact ⟨o, ho, vs, hv, hP⟩
    · cases hj
  · exact D.own.get p (List.mem_of_getElem? hj)

/-- a for loop over an iterator of the ledger; its target a name -/
theorem b_ForW {x : Str} {xpos : Pos} {body : List Stmt} {it : Addr} {itP : Nat → Obj → Prop} {side : List Item → Prop} {n : Nat} {V : Nat → Value → Prop} {Q : Flow → Shared → Prop}
    (W : Nexts prog w A it itP side n V) (I : Nat → List (Str × Value) → List Item → Prop) (D : Led base h₀ l₀ L h (Vars ls) ((it, itP 0) :: l)) (h0 : I 0 ls l) (hside : ∀ i ls l, I i ls l → side l)
    (turn : ∀ i v h tk ls l, i < n → V i v → I i ls l → Led base h₀ l₀ L h (Vars ((x, v) :: ls)) ((it, itP (i + 1)) :: l) →
      wpB (model prog w) A (execs body (envK w.params a L cl)) (fun f s' => match f with
        | .next | .cont => ∃ h tk ls' l', s' = ⟨h, g, d, tk, os⟩ ∧ I (i + 1) ls' l' ∧ Led base h₀ l₀ L h (Vars ls') ((it, itP (i + 1)) :: l')
        | .brk => Q .next s'
        | .ret v => Q (.ret v) s') NoE ⟨h, g, d, tk, os⟩)
    (fin : ∀ h tk ls l, I n ls l → Led base h₀ l₀ L h (Vars ls) l → Q .next ⟨h, g, d, tk, os⟩)
    (hk : (fdK w.params a).scope.kind = .function := by kernel_rfl) (hl : (fdK w.params a).scope.names.lookup x = some .local := by kernel_rfl) :
    codeB (model prog w) A (.forLoop (.Name x xpos) (.ref it) body [] (envK w.params a L cl)) (Fl Q) ⟨h, g, d, tk, os⟩ := by
  refine codeB_forLoop (fun k s => ∃ i h tk ls l, i ≤ n ∧ k = n - i ∧ s = ⟨h, g, d, tk, os⟩ ∧ I i ls l ∧ Led base h₀ l₀ L h (Vars ls) ((it, itP i) :: l)) (fun k s hI => ?_) n ⟨0, h, tk, ls, l, Nat.zero_le _, rfl, rfl, h0, D⟩
  obtain ⟨i, h, tk, ls, l, hi, rfl, rfl, hi', D⟩ := hI
  by_cases hlt : i < n
  · refine W.item _ _ _ _ _ _ _ _ _ _ _ _ _ hlt (hside _ _ _ hi') D fun v h' tk' hv D' => ?_
    refine b_assign_Name (b_store D' (fun h₂ tk₂ D₂ => ?_) hk hl)
    refine b_mono (turn i v h₂ tk₂ ls l hlt hv hi' D₂) (fun f s₃ h₃ => ?_) fun _ _ z => z
    cases f with
    | next => obtain ⟨h, tk, ls', l', rfl, hI, D⟩ := h₃; exact ⟨n - (i + 1), by omega, i + 1, h, tk, ls', l', hlt, rfl, rfl, hI, D⟩
    | cont => obtain ⟨h, tk, ls', l', rfl, hI, D⟩ := h₃; exact ⟨n - (i + 1), by omega, i + 1, h, tk, ls', l', hlt, rfl, rfl, hI, D⟩
    | brk => exact h₃
    | ret v => exact h₃
  · obtain rfl : i = n := Nat.le_antisymm hi (Nat.not_lt.mp hlt)
    refine W.done _ _ _ _ _ _ _ _ _ _ _ _ (hside _ _ _ hi') D fun h' tk' D' => ?_
    exact b_execs_nil (fin _ _ _ _ hi' D')
end
end Mine
end

noncomputable section
namespace Mine
open PySem PySem.Calls PyProof.Rows PySem.W


section
variable {prog : Program} {w : World} {A : Around} {E : Value → Shared → Prop} {base h₀ h : Heap} {l₀ l : List Item} {L : Addr} {g : Array GenState} {d : Drawn} {tk : Nat} {os : OsState} {ls : List (Str × Value)} {a : Addr} {cl : List (Str × Addr)} {s : Shared} {env : Env}
  {Δ : DevA} {out wait ready line : List UInt8}

theorem feed_spec {octs : List UInt8} {t : Tok} {Q : Value → Shared → Prop} (S : Stat w base) (R : Room A 1)
    (O : Own base h (dev w.params Δ out wait ready line)) (hz : wait.length + octs.length ≤ 4)
    (k : ∀ h' tk', Own base h' (dev w.params Δ out (wait ++ octs) ready line) → Step h h' (dev w.params Δ out wait ready line) (dev w.params Δ out (wait ++ octs) ready line) → Q .none ⟨h', g, d, tk', os⟩) :
    wpB (model prog w) A (call (.ref 76) [.ref Δ.u, .bytes octs.toArray t]) Q NoE ⟨h, g, d, tk, os⟩ := by
  refine b_callK (a := 76) S O (by kernel_rfl) R.lim (binds := [(Str.ofString "self", .ref Δ.u), (Str.ofString "octets", .bytes octs.toArray t)]) (by kernel_rfl) (by kernel_rfl) fun h₁ tk₁ D => ?_
  rw [body_76]
  refine b_execs_cons ?_
  refine b_For ?_
  refine b_local D rfl ?_
  refine l_iterBytes D fun it h₂ tk₂ D => ?_
  refine b_ForW (nexts_bytes (A := A.deeper _) R.hand it octs t) (fun i ls l => l = dev w.params Δ out (wait ++ octs.take i) ready line ∧ ls.lookup (Str.ofString "self") = some (.ref Δ.u)) D ⟨by simp, rfl⟩ (fun _ _ _ _ => trivial) ?_ ?_
  · rintro i v h tk ls l hi ⟨c, u, hc, rfl⟩ ⟨rfl, hs⟩ D
    have hci := List.getElem?_eq_some_iff.mp hc
    have htk : octs.take (i + 1) = octs.take i ++ [c] := by rw [List.take_add_one, hc]; rfl
    refine b_execs_cons ?_
    refine b_If ?_
    refine b_isTrue_Compare ?_
    refine b_callBlt S D PySem.boot_len ?_
    refine b_args ?_
    refine b_AttributeN ?_
    refine b_local D hs ?_
    refine b_get 1 2 S D rfl rfl rfl (by kernel_rfl) rfl ?_
    refine b_args_nil ?_
    refine l_len (i := 4) D rfl (by simp; omega) fun t tk₂ => ?_
    refine b_AttributeN ?_
    refine b_local D hs ?_
    refine b_get 1 2 S D rfl rfl rfl (by kernel_rfl) rfl ?_
    refine of_any (lt_int ?_)
    refine b_truthy_bool ?_
    rw [if_pos (by simp; omega)]
    refine b_execs_cons ?_
    refine b_Expr ?_ (by kernel_rfl) (by kernel_rfl)
    refine b_CallO ?_
    refine b_AttributeN ?_
    refine b_local D hs ?_
    refine b_get 1 2 S D rfl rfl rfl (by kernel_rfl) rfl ?_
    refine l_baMeth (i := 4) D rfl slot_ba_append type_ba_append ?_
    dsimp only
    refine b_cwB ?_
    refine b_args ?_
    refine b_local D rfl ?_
    refine b_args_nil ?_
    refine l_append (i := 4) D rfl (by omega) (by have := c.toNat_lt; omega) (by simp; omega) fun h₃ tk₃ D => ?_
    refine ⟨(by nofun), b_execs_nil (b_execs_nil ?_)⟩
    refine ⟨_, _, (Str.ofString "octet", .int c.toNat u) :: ls, _, rfl, ⟨rfl, hs⟩, ?_⟩
    have e : (wait ++ octs.take i).toArray.push (Int.toNat (c.toNat : Int)).toUInt8 = (wait ++ octs.take (i + 1)).toArray := by
      rw [htk]; simp
    rw [e] at D
    exact D
  · rintro h tk ls l ⟨rfl, hs⟩ D
    refine b_execs_nil ?_
    rw [List.take_length] at D
    exact k _ _ D.own D.step

theorem take_out_spec {Q : Value → Shared → Prop} (S : Stat w base) (R : Room A 1)
    (O : Own base h (dev w.params Δ out wait ready line)) (hz : out.length ≤ 1000000)
    (k : ∀ n h' tk' t, Own base h' (dev w.params { Δ with ao := n } [] wait ready line) → Step h h' (dev w.params Δ out wait ready line) (dev w.params { Δ with ao := n } [] wait ready line) → Q (.bytes out.toArray t) ⟨h', g, d, tk', os⟩) :
    wpB (model prog w) A (call (.ref 83) [.ref Δ.u]) Q NoE ⟨h, g, d, tk, os⟩ := by
  refine b_callK (a := 83) S O (by kernel_rfl) R.lim (binds := [(Str.ofString "self", .ref Δ.u)]) (by kernel_rfl) (by kernel_rfl) fun h₁ tk₁ D => ?_
  rw [body_83]
  refine b_execs_cons ?_
  refine b_Assign ?_ (by kernel_rfl) (by kernel_rfl)
  refine b_callBlt S D PyProof.Rows.boot_bytes ?_
  refine b_args ?_
  refine b_AttributeN ?_
  refine b_local D rfl ?_
  refine b_get 0 1 S D rfl rfl rfl (by kernel_rfl) rfl ?_
  refine b_args_nil ?_
  refine l_bytes (i := 2) D rfl (by simpa using hz) fun t tk₂ => ?_
  refine b_assign_Name ?_
  refine b_store D fun h₂ tk₄ D => ?_
  refine b_execs_cons ?_
  refine b_Assign ?_ (by kernel_rfl) (by kernel_rfl)
  refine b_callBlt S D PyProof.Rows.Boot.bytearray ?_
  refine b_args_nil ?_
  refine l_make D fun n h₃ tk₅ D => ?_
  refine b_assign_Attribute ?_
  refine b_local D rfl ?_
  refine b_set 1 2 S D rfl rfl (by kernel_rfl) (by simp [uartRows]) fun h₄ tk₆ D => ?_
  refine b_execs_cons (b_Return_some ?_)
  refine b_local D rfl ?_
  have D := D.pick [1, 2, 0, 4, 5, 6, 7, 8]
  rw [put_out] at D
  exact k n _ _ _ D.own D.step
end
end Mine
end

noncomputable section
namespace Mine
open PySem PySem.Calls PyProof.Rows PySem.W

theorem con_FEED (P : Params) : findCls (KW P) (.ref 218) (.type "type") (Str.ofString "FEED") = some (.val (.int 10 400)) := by kernel_rfl
theorem con_RETURN (P : Params) : findCls (KW P) (.ref 218) (.type "type") (Str.ofString "RETURN") = some (.val (.int 13 402)) := by kernel_rfl
theorem con_BACK (P : Params) : findCls (KW P) (.ref 218) (.type "type") (Str.ofString "BACK") = some (.val (.int 8 404)) := by kernel_rfl
theorem con_DELETE (P : Params) : findCls (KW P) (.ref 218) (.type "type") (Str.ofString "DELETE") = some (.val (.int 127 406)) := by kernel_rfl
theorem con_KILL (P : Params) : findCls (KW P) (.ref 218) (.type "type") (Str.ofString "KILL") = some (.val (.int 21 408)) := by kernel_rfl
theorem con_END (P : Params) : findCls (KW P) (.ref 218) (.type "type") (Str.ofString "END") = some (.val (.int 4 410)) := by kernel_rfl
theorem con_ERASED (P : Params) : findCls (KW P) (.ref 218) (.type "type") (Str.ofString "ERASED") = some (.val (.bytes #[8, 32, 8] 415)) := by kernel_rfl
theorem reads_218 (P : Params) : readsIn (KW P) 218 (.type "type") = true := by kernel_rfl
theorem glob_LineInput (P : Params) : nsIn (KW P) mainGlobals (Str.ofString "LineInput") = some (some (.ref 218)) := by kernel_rfl
theorem keep_90 (P : Params) : keepIn (KW P) (.ref 90) = true := by kernel_rfl
theorem keep_97 (P : Params) : keepIn (KW P) (.ref 97) = true := by kernel_rfl
theorem keep_194 (P : Params) : keepIn (KW P) (.ref 194) = true := by kernel_rfl
theorem keep_201 (P : Params) : keepIn (KW P) (.ref 201) = true := by kernel_rfl
theorem keep_208 (P : Params) : keepIn (KW P) (.ref 208) = true := by kernel_rfl

noncomputable def tupP (vs : List Value) : Obj → Prop := fun o => o.cls = .type "tuple" ∧ ∃ n, o.data = .seq vs.toArray n

section
variable {prog : Program} {w : World} {A : Around} {E : Value → Shared → Prop} {base h₀ h : Heap} {l₀ l : List Item} {L : Addr} {g : Array GenState} {d : Drawn} {tk : Nat} {os : OsState} {ls : List (Str × Value)} {a : Addr} {cl : List (Str × Addr)} {s : Shared} {env : Env}
  {Δ : DevA} {out wait ready line : List UInt8}

/-- a constant of the class LineInput -/
theorem b_con {name : Str} {xpos pos : Pos} {v : Value} {Q : Value → Shared → Prop} (S : Stat w base) (D : Led base h₀ l₀ L h (Vars ls) l) (hf : findCls (KW w.params) (.ref 218) (.type "type") name = some (.val v))
    (hh : handedIn v = true) (k : Q v ⟨h, g, d, tk + 1, os⟩)
    (hk : (fdK w.params a).scope.kind = .function := by kernel_rfl) (hl : (fdK w.params a).scope.names.lookup (Str.ofString "LineInput") = some .globalImplicit := by kernel_rfl) :
    wpB (model prog w) A (eval (.Attribute (.Name (Str.ofString "LineInput") xpos) name pos) (envK w.params a L cl)) Q E ⟨h, g, d, tk, os⟩ :=
  b_AttributeN (b_global S D (glob_LineInput _) (b_cls S D (reads_218 _) hf hh k) hk hl)
theorem l_newTuple {vs : List Value} {Q : Value → Shared → Prop} (D : Led base h₀ l₀ L h (Vars ls) l) (k : ∀ n h' tk', Led base h₀ l₀ L h' (Vars ls) ((n, tupP vs) :: l) → Q (.ref n) ⟨h', g, d, tk', os⟩) (hz : vs.length ≤ 1000 := by simp only [List.length_cons, List.length_nil]; decide) :
    wpB (model prog w) A (newTuple vs) Q E ⟨h, g, d, tk, os⟩ :=
  of_any (wpAny_newTuple (s := ⟨h, g, d, tk, os⟩) (k _ _ _ (D.push _ ⟨rfl, _, rfl⟩)) (by rw [sizeLine_eq]; omega))
theorem l_inTuple {i : Nat} {x : Addr} {vs : List Value} {ns : List Int} {n : Int} {t : Tok} {Q : Value → Shared → Prop} (D : Led base h₀ l₀ L h (Vars ls) l) (hi : l[i]? = some (x, tupP vs)) (hv : IntsAre vs ns) (k : Q (.bool (ns.any (· == n))) ⟨h, g, d, tk, os⟩) :
    wpB (model prog w) A (compareOp .In (.int n t) (.ref x)) Q E ⟨h, g, d, tk, os⟩ := by
  obtain ⟨o, ho, hc, m, hd⟩ := D.at hi
  exact of_any (in_tuple_ints (s := ⟨h, g, d, tk, os⟩) (items := vs.toArray) ⟨o, ho, hc, m, hd⟩ (by simpa using hv) k)

theorem erase_spec {Q : Value → Shared → Prop} (S : Stat w base) (R : Room A 2)
    (O : Own base h (dev w.params Δ out wait ready line)) (hz : line.length ≤ 1000) (hz' : out.length ≤ 900000) (hne : line ≠ [])
    (k : ∀ n h' tk', Own base h' (dev w.params { Δ with al := n } (out ++ [8, 32, 8]) wait ready line.dropLast) →
      Step h h' (dev w.params Δ out wait ready line) (dev w.params { Δ with al := n } (out ++ [8, 32, 8]) wait ready line.dropLast) → Q .none ⟨h', g, d, tk', os⟩) :
    wpB (model prog w) A (call (.ref 194) [.ref Δ.c]) Q NoE ⟨h, g, d, tk, os⟩ := by
  have hl : 1 ≤ line.length := by cases line <;> simp_all
  refine b_callK (a := 194) S O (by kernel_rfl) R.lim (binds := [(Str.ofString "self", .ref Δ.c)]) (by kernel_rfl) (by kernel_rfl) fun h₁ tk₁ D => ?_
  rw [body_194]
  refine b_execs_cons ?_
  refine b_Assign ?_ (by kernel_rfl) (by kernel_rfl)
  refine b_SliceOf ?_
  refine b_AttributeN ?_
  refine b_local D rfl ?_
  refine b_get 4 5 S D rfl rfl rfl (by kernel_rfl) rfl ?_
  refine b_part_none ?_
  refine b_part_some ?_
  refine b_BinOp ?_
  refine b_callBlt S D PySem.boot_len ?_
  refine b_args ?_
  refine b_AttributeN ?_
  refine b_local D rfl ?_
  refine b_get 4 5 S D rfl rfl rfl (by kernel_rfl) rfl ?_
  refine b_args_nil ?_
  refine l_len (i := 7) D rfl (by simp; omega) fun t tk₂ => ?_
  refine b_int ?_
  refine of_any (sub_int ?_)
  refine l_slice (i := 7) D rfl .none (.int _ _) ?_ fun n h₃ tk₅ D => ?_
  · exact Nat.le_trans (KBc.size_picked_le _ _ _) (by simp; omega)
  refine b_assign_Attribute ?_
  refine b_local D rfl ?_
  refine b_set 5 6 S D rfl rfl (by kernel_rfl) (by simp [conRows]) fun h₄ tk₆ D => ?_
  have D := D.pick [1, 2, 3, 4, 5, 6, 7, 0]
  rw [put_line] at D
  have e : KBy.picked line.toArray none (some (((line.toArray.size : Nat) : Int) - 1)) = line.dropLast.toArray := by
    have := picked_take line (line.length - 1) (by omega)
    rw [List.dropLast_eq_take, ← this]
    congr 2
    simp; omega
  rw [e] at D
  refine b_execs_cons ?_
  refine b_Expr ?_ (by kernel_rfl) (by kernel_rfl)
  refine b_CallO ?_
  refine b_AttributeN ?_
  refine b_local D rfl ?_
  refine b_get 4 5 S D rfl rfl rfl (by kernel_rfl) rfl ?_
  refine b_meth 0 1 S D rfl rfl rfl (f := 90) (by kernel_rfl) ?_
  dsimp only
  refine b_cwK (keep_90 _) ?_
  refine b_args ?_
  refine b_con S D (con_ERASED _) rfl ?_
  refine b_args_nil ?_
  refine ⟨S.here D.stay, send_spec (octs := [8, 32, 8]) S R.deeper (O := D.own) (Δ := { Δ with al := n }) (by simp; omega) fun h₅ tk₇ O' S' => ?_⟩
  have D := Led.call0 D O' S'
  refine ⟨(by nofun), b_execs_nil ?_⟩
  exact k n _ _ D.own D.step
end
end Mine
end

noncomputable section
namespace Mine
open PySem PySem.Calls PyProof.Rows PySem.W

noncomputable def erased : List UInt8 := [8, 32, 8]
noncomputable def kills (n : Nat) : List UInt8 := (List.replicate n erased).flatten
theorem kills_succ (n : Nat) : kills (n + 1) = kills n ++ [8, 32, 8] := by
  unfold kills
  rw [List.replicate_succ', List.flatten_append]; rfl
theorem kills_len (n : Nat) : (kills n).length = 3 * n := by
  induction n with
  | zero => rfl
  | succ n ih => rw [kills_succ, List.length_append, ih]; simp; omega
/-- what a typed octet shows, makes ready and leaves in the line -/
noncomputable def isEnd (c : UInt8) : Bool := c == 10 || c == 4
noncomputable def typF (c : UInt8) (line : List UInt8) : List UInt8 × List UInt8 × List UInt8 :=
  if c = 21 then (kills line.length, [], [])
  else if c = 8 ∨ c = 127 then (if line = [] then ([], [], []) else (erased, [], line.dropLast))
  else if c = 0 then ([], [], line)
  else
    let e := if c = 13 then 10 else c
    if isEnd e = true then ([e], line ++ [e], []) else ([e], [], line ++ [e])

section
variable {prog : Program} {w : World} {A : Around} {E : Value → Shared → Prop} {base h₀ h : Heap} {l₀ l : List Item} {L : Addr} {g : Array GenState} {d : Drawn} {tk : Nat} {os : OsState} {ls : List (Str × Value)} {a : Addr} {cl : List (Str × Addr)} {s : Shared} {env : Env}
  {Δ : DevA} {out wait ready line : List UInt8}

theorem l_newList {vs : List Value} {Q : Value → Shared → Prop} (D : Led base h₀ l₀ L h (Vars ls) l) (k : ∀ n h' tk', Led base h₀ l₀ L h' (Vars ls) ((n, lstP vs) :: l) → Q (.ref n) ⟨h', g, d, tk', os⟩) (hz : vs.length ≤ 1000 := by simp only [List.length_cons, List.length_nil]; decide) :
    wpB (model prog w) A (newList vs) Q E ⟨h, g, d, tk, os⟩ :=
  of_any (wpAny_newList (s := ⟨h, g, d, tk, os⟩) (k _ _ _ (D.push _ ⟨_, rfl⟩)) (by rw [sizeLine_eq]; omega))
theorem l_bytesInts {i : Nat} {x : Addr} {vs : List Value} {ns : List Int} {Q : Value → Shared → Prop} (hh : A.handled = none) (D : Led base h₀ l₀ L h (Vars ls) l) (hi : l[i]? = some (x, lstP vs)) (hv : IntsAre vs ns) (hr : ∀ n ∈ ns, 0 ≤ n ∧ n < 256) (hz : vs.length ≤ 1000)
    (k : ∀ h' tk' t, Led base h₀ l₀ L h' (Vars ls) l → Q (.bytes (byteArr ns) t) ⟨h', g, d, tk', os⟩) : wpB (model prog w) A (call (.type "bytes") [.ref x]) Q E ⟨h, g, d, tk, os⟩ := by
  obtain ⟨o, ho, m, rfl⟩ := D.at hi
  exact of_any (call_bytes_ints (s := ⟨h, g, d, tk, os⟩) ⟨_, ho, rfl, _, rfl⟩ hv hr (by rw [sizeLine_eq]; omega) hh fun h' t tk' hk => k h' tk' t (D.grow hk))

theorem put_spec {c : UInt8} {t : Tok} {Q : Value → Shared → Prop} (S : Stat w base) (R : Room A 2)
    (O : Own base h (dev w.params Δ out wait [] line)) (hz : line.length ≤ 38) (hz' : out.length ≤ 900000)
    (k : ∀ n h' tk', Own base h' (dev w.params { Δ with al := n } (out ++ [c]) wait (if isEnd c = true then line ++ [c] else []) (if isEnd c = true then [] else line ++ [c])) →
      Step h h' (dev w.params Δ out wait [] line) (dev w.params { Δ with al := n } (out ++ [c]) wait (if isEnd c = true then line ++ [c] else []) (if isEnd c = true then [] else line ++ [c])) → Q .none ⟨h', g, d, tk', os⟩) :
    wpB (model prog w) A (call (.ref 208) [.ref Δ.c, .int (c.toNat : Int) t]) Q NoE ⟨h, g, d, tk, os⟩ := by
  have hc := c.toNat_lt
  refine b_callK (a := 208) S O (by kernel_rfl) R.lim (binds := [(Str.ofString "self", .ref Δ.c), (Str.ofString "octet", .int (c.toNat : Int) t)]) (by kernel_rfl) (by kernel_rfl) fun h₁ tk₁ D => ?_
  rw [body_208]
  -- self.uart.send(bytes([octet]))
  refine b_execs_cons ?_
  refine b_Expr ?_ (by kernel_rfl) (by kernel_rfl)
  refine b_CallO ?_
  refine b_AttributeN ?_
  refine b_local D rfl ?_
  refine b_get 4 5 S D rfl rfl rfl (by kernel_rfl) rfl ?_
  refine b_meth 0 1 S D rfl rfl rfl (f := 90) (by kernel_rfl) ?_
  dsimp only
  refine b_cwK (keep_90 _) ?_
  refine b_args ?_
  refine b_callBlt S D PyProof.Rows.boot_bytes ?_
  refine b_args ?_
  refine b_List ?_
  refine b_args ?_
  refine b_local D rfl ?_
  refine b_args_nil ?_
  refine l_newList D fun n h₂ tk₂ D => ?_
  refine b_args_nil ?_
  refine l_bytesInts (A := A.deeper _) R.hand D (i := 0) rfl (.cons _ _ .nil) (by simp; omega) (by simp) fun h₃ tk₃ t₂ D => ?_
  have D := D.drop1
  have e : byteArr [(c.toNat : Int)] = [c].toArray := by simp [byteArr]
  rw [e]
  refine b_args_nil ?_
  refine ⟨S.here D.stay, send_spec S R.deeper (O := D.own) (by simp; omega) fun h₅ tk₇ O' S' => ?_⟩
  have D := Led.call0 D O' S'
  refine ⟨(by nofun), ?_⟩
  -- self.line.append(octet)
  refine b_execs_cons ?_
  refine b_Expr ?_ (by kernel_rfl) (by kernel_rfl)
  refine b_CallO ?_
  refine b_AttributeN ?_
  refine b_local D rfl ?_
  refine b_get 4 5 S D rfl rfl rfl (by kernel_rfl) rfl ?_
  refine l_baMeth (i := 7) D rfl slot_ba_append type_ba_append ?_
  dsimp only
  refine b_cwB ?_
  refine b_args ?_
  refine b_local D rfl ?_
  refine b_args_nil ?_
  refine l_append (i := 7) D rfl (by omega) (by omega) (by simp; omega) fun h₆ tk₆ D => ?_
  have e2 : line.toArray.push (Int.toNat (c.toNat : Int)).toUInt8 = (line ++ [c]).toArray := by simp
  rw [e2] at D
  have D : Led base h (dev w.params Δ out wait [] line) h.objs.size h₆ _ (dev w.params Δ (out ++ [c]) wait [] (line ++ [c])) := D
  refine ⟨(by nofun), ?_⟩
  -- if ...
  refine b_execs_cons ?_
  refine b_If ?_
  refine b_isTrue_Or ?_
  refine b_isTrue_Compare ?_
  refine b_local D rfl ?_
  refine b_Tuple ?_
  refine b_args ?_
  refine b_con S D (con_FEED _) rfl ?_
  refine b_args ?_
  refine b_con S D (con_END _) rfl ?_
  refine b_args_nil ?_
  refine l_newTuple D fun n h₇ tk₇ D => ?_
  refine l_inTuple (i := 0) D rfl (.cons _ _ (.cons _ _ .nil)) ?_
  have D := D.drop1
  refine b_truthy_bool ?_
  have ei : ([10, 4].any (· == (c.toNat : Int))) = isEnd c := by
    have h10 : ((10 : Int) == (c.toNat : Int)) = (c == 10) := by
      apply Bool.eq_iff_iff.mpr
      simp only [beq_iff_eq, ← UInt8.toNat_inj]
      show _ ↔ c.toNat = 10
      omega
    have h4 : ((4 : Int) == (c.toNat : Int)) = (c == 4) := by
      apply Bool.eq_iff_iff.mpr
      simp only [beq_iff_eq, ← UInt8.toNat_inj]
      show _ ↔ c.toNat = 4
      omega
    unfold isEnd
    rw [List.any_cons, List.any_cons, List.any_nil, h10, h4, Bool.or_false]
  rw [ei]
  cases hE : isEnd c with
  | true =>
    rw [hE] at k
    rw [if_pos rfl, if_pos rfl]
    -- self.ready.extend(self.line)
    refine b_execs_cons ?_
    refine b_Expr ?_ (by kernel_rfl) (by kernel_rfl)
    refine b_CallO ?_
    refine b_AttributeN ?_
    refine b_local D rfl ?_
    refine b_get 4 5 S D rfl rfl rfl (by kernel_rfl) rfl ?_
    refine l_baMeth (i := 6) D rfl slot_ba_extend type_ba_extend ?_
    dsimp only
    refine b_cwB ?_
    refine b_args ?_
    refine b_AttributeN ?_
    refine b_local D rfl ?_
    refine b_get 4 5 S D rfl rfl rfl (by kernel_rfl) rfl ?_
    refine b_args_nil ?_
    refine l_extendA (i := 6) (j := 7) D rfl rfl (by simp; omega) fun h₈ tk₈ D => ?_
    refine ⟨(by nofun), ?_⟩
    -- self.line = bytearray()
    refine b_execs_cons ?_
    refine b_Assign ?_ (by kernel_rfl) (by kernel_rfl)
    refine b_callBlt S D PyProof.Rows.Boot.bytearray ?_
    refine b_args_nil ?_
    refine l_make D fun n h₃ tk₅ D => ?_
    refine b_assign_Attribute ?_
    refine b_local D rfl ?_
    refine b_set 5 6 S D rfl rfl (by kernel_rfl) (by simp [conRows]) fun h₄ tk₆ D => ?_
    have D := D.pick [1, 2, 3, 4, 5, 6, 7, 0]
    rw [put_line] at D
    have e3 : ([] : List UInt8).toArray ++ (line ++ [c]).toArray = (line ++ [c]).toArray := by simp
    rw [e3] at D
    refine b_execs_nil (b_execs_nil ?_)
    exact k n _ _ D.own D.step
  | false =>
    rw [hE] at k
    rw [if_neg (by decide)]
    refine b_isTrue_Compare ?_
    refine b_BinOp ?_
    refine b_callBlt S D PySem.boot_len ?_
    refine b_args ?_
    refine b_AttributeN ?_
    refine b_local D rfl ?_
    refine b_get 4 5 S D rfl rfl rfl (by kernel_rfl) rfl ?_
    refine b_args_nil ?_
    refine l_len (i := 6) D rfl (by simp) fun t tk₂ => ?_
    refine b_callBlt S D PySem.boot_len ?_
    refine b_args ?_
    refine b_AttributeN ?_
    refine b_local D rfl ?_
    refine b_get 4 5 S D rfl rfl rfl (by kernel_rfl) rfl ?_
    refine b_args_nil ?_
    refine l_len (i := 7) D rfl (by simp; omega) fun t tk₂ => ?_
    refine of_any (add_int ?_)
    refine b_AttributeN ?_
    refine b_local D rfl ?_
    refine b_get 4 5 S D rfl rfl rfl (by kernel_rfl) rfl ?_
    refine of_any (eq_int ?_)
    refine b_truthy_bool ?_
    rw [if_neg (by simp; omega)]
    refine b_execs_nil (b_execs_nil ?_)
    exact k Δ.al _ _ D.own D.step
end
end Mine
end

noncomputable section
namespace Mine
open PySem PySem.Calls PyProof.Rows PySem.W

theorem beq_comm' {a b : Int} : (a == b) = (b == a) := Bool.eq_iff_iff.mpr ⟨fun e => beq_iff_eq.mpr (beq_iff_eq.mp e).symm, fun e => beq_iff_eq.mpr (beq_iff_eq.mp e).symm⟩
theorem u8_eq (c : UInt8) (n : Nat) (hn : n < 256) : ((c.toNat : Int) == (n : Int)) = (c == UInt8.ofNat n) := by
  apply Bool.eq_iff_iff.mpr
  simp only [beq_iff_eq, ← UInt8.toNat_inj]
  rw [UInt8.toNat_ofNat', Nat.mod_eq_of_lt hn]
  omega

section
variable {prog : Program} {w : World} {A : Around} {E : Value → Shared → Prop} {base h₀ h : Heap} {l₀ l : List Item} {L : Addr} {g : Array GenState} {d : Drawn} {tk : Nat} {os : OsState} {ls : List (Str × Value)} {a : Addr} {cl : List (Str × Addr)} {s : Shared} {env : Env}
  {Δ : DevA} {out wait ready line : List UInt8}

theorem typed_spec {c : UInt8} {t : Tok} {Q : Value → Shared → Prop} (S : Stat w base) (R : Room A 3)
    (O : Own base h (dev w.params Δ out wait [] line)) (hz : line.length ≤ 38) (hz' : out.length ≤ 800000)
    (k : ∀ n h' tk', Own base h' (dev w.params { Δ with al := n } (out ++ (typF c line).1) wait (typF c line).2.1 (typF c line).2.2) →
      Step h h' (dev w.params Δ out wait [] line) (dev w.params { Δ with al := n } (out ++ (typF c line).1) wait (typF c line).2.1 (typF c line).2.2) → Q .none ⟨h', g, d, tk', os⟩) :
    wpB (model prog w) A (call (.ref 201) [.ref Δ.c, .int (c.toNat : Int) t]) Q NoE ⟨h, g, d, tk, os⟩ := by
  have hc := c.toNat_lt
  refine b_callK (a := 201) S O (by kernel_rfl) R.lim (binds := [(Str.ofString "self", .ref Δ.c), (Str.ofString "octet", .int (c.toNat : Int) t)]) (by kernel_rfl) (by kernel_rfl) fun h₁ tk₁ D => ?_
  rw [body_201]
  refine b_execs_cons ?_
  refine b_If ?_
  refine b_isTrue_Compare ?_
  refine b_local D rfl ?_
  refine b_con S D (con_KILL _) rfl ?_
  refine of_any (eq_int ?_)
  refine b_truthy_bool ?_
  have e21 : ((c.toNat : Int) == (21 : Int)) = (c == 21) := u8_eq c 21 (by omega)
  rw [e21]
  by_cases h21 : c = 21
  · subst h21
    rw [if_pos (by rfl)]
    have hT : typF 21 line = (kills line.length, [], []) := rfl
    rw [hT] at k
    dsimp only at k
    refine b_execs_cons ?_
    refine b_While (fun n s => ∃ al hx tk, n ≤ line.length ∧ s = ⟨hx, g, d, tk, os⟩ ∧ Led base h (dev w.params Δ out wait [] line) h.objs.size hx (Vars ([(Str.ofString "self", .ref Δ.c), (Str.ofString "octet", .int (UInt8.toNat 21 : Nat) t)].reverse))
      (dev w.params { Δ with al := al } (out ++ kills (line.length - n)) wait [] (line.take n))) line.length ⟨Δ.al, h₁, _, Nat.le_refl _, rfl, ?_⟩ ?_
    · rw [Nat.sub_self, List.take_length]
      have : out ++ kills 0 = out := by simp [kills]
      rw [this]; exact D
    · rintro n s ⟨al, h, tk, hn, rfl, D⟩
      refine b_isTrue_Compare ?_
      refine b_callBlt S D PySem.boot_len ?_
      refine b_args ?_
      refine b_AttributeN ?_
      refine b_local D rfl ?_
      refine b_get 4 5 S D rfl rfl rfl (by kernel_rfl) rfl ?_
      refine b_args_nil ?_
      refine l_len (i := 7) D rfl (by simp; omega) fun _ tk₂ => ?_
      refine b_int ?_
      refine of_any (gt_int ?_)
      refine b_truthy_bool ?_
      cases n with
      | zero =>
        rw [if_neg (by simp)]
        repeat refine b_execs_nil ?_
        exact k _ _ _ D.own D.step
      | succ n =>
        rw [if_pos (by simp; omega)]
        refine b_execs_cons ?_
        refine b_Expr ?_ (by kernel_rfl) (by kernel_rfl)
        refine b_CallO ?_
        refine b_local D rfl ?_
        refine b_meth 4 5 S D rfl rfl rfl (f := 194) (by kernel_rfl) ?_
        dsimp only
        refine b_cwK (keep_194 _) ?_
        refine b_args_nil ?_
        refine ⟨S.here D.stay, erase_spec (Δ := { Δ with al := al }) S R.deeper (O := D.own) (by simp; omega) (by rw [List.length_append, kills_len]; omega) (by intro q; have := congrArg List.length q; rw [List.length_take, List.length_nil] at this; omega) fun al' h₅ tk₇ O' S' => ?_⟩
        have D := Led.call0 D O' S'
        refine ⟨(by nofun), b_execs_nil ?_⟩
        refine ⟨n, by omega, al', h₅, tk₇, by omega, rfl, ?_⟩
        have e1 : out ++ kills (line.length - (n + 1)) ++ [8, 32, 8] = out ++ kills (line.length - n) := by
          rw [List.append_assoc, ← kills_succ]
          congr 2; omega
        have e2 : (line.take (n + 1)).dropLast = line.take n := by
          rw [List.dropLast_eq_take, List.take_take, List.length_take]
          congr 1; omega
        rw [e1, e2] at D
        exact D
  · have h21' : (c == 21) = false := beq_false_of_ne h21
    rw [h21', if_neg (by decide)]
    refine b_execs_cons ?_
    refine b_If ?_
    refine b_isTrue_Compare ?_
    refine b_local D rfl ?_
    refine b_Tuple ?_
    refine b_args ?_
    refine b_con S D (con_BACK _) rfl ?_
    refine b_args ?_
    refine b_con S D (con_DELETE _) rfl ?_
    refine b_args_nil ?_
    refine l_newTuple D fun n h₇ tk₇ D => ?_
    refine l_inTuple (i := 0) D rfl (.cons _ _ (.cons _ _ .nil)) ?_
    have D := D.drop1
    refine b_truthy_bool ?_
    have ei : ([8, 127].any (· == (c.toNat : Int))) = (c == 8 || c == 127) := by
      have h8 : ((8 : Int) == (c.toNat : Int)) = (c == 8) := beq_comm'.trans (u8_eq c 8 (by omega))
      have h127 : ((127 : Int) == (c.toNat : Int)) = (c == 127) := beq_comm'.trans (u8_eq c 127 (by omega))
      rw [List.any_cons, List.any_cons, List.any_nil, h8, h127, Bool.or_false]
    rw [ei]
    by_cases hb : c = 8 ∨ c = 127
    · have hT : typF c line = if line = [] then ([], [], []) else (erased, [], line.dropLast) := by
        unfold typF; rw [if_neg h21, if_pos hb]
      rw [if_pos (by simpa using hb)]
      refine b_execs_cons ?_
      refine b_If ?_
      refine b_isTrue_Compare ?_
      refine b_callBlt S D PySem.boot_len ?_
      refine b_args ?_
      refine b_AttributeN ?_
      refine b_local D rfl ?_
      refine b_get 4 5 S D rfl rfl rfl (by kernel_rfl) rfl ?_
      refine b_args_nil ?_
      refine l_len (i := 7) D rfl (by simp; omega) fun _ tk₂ => ?_
      refine b_int ?_
      refine of_any (gt_int ?_)
      refine b_truthy_bool ?_
      by_cases hn : line = []
      · subst hn
        rw [if_pos rfl] at hT
        rw [hT] at k
        dsimp only at k
        rw [List.append_nil] at k
        rw [if_neg (by simp)]
        repeat refine b_execs_nil ?_
        exact k Δ.al _ _ D.own D.step
      · rw [if_neg hn] at hT
        rw [hT] at k
        dsimp only at k
        have hl : 1 ≤ line.length := by cases line <;> simp_all
        rw [if_pos (by simp; omega)]
        refine b_execs_cons ?_
        refine b_Expr ?_ (by kernel_rfl) (by kernel_rfl)
        refine b_CallO ?_
        refine b_local D rfl ?_
        refine b_meth 4 5 S D rfl rfl rfl (f := 194) (by kernel_rfl) ?_
        dsimp only
        refine b_cwK (keep_194 _) ?_
        refine b_args_nil ?_
        refine ⟨S.here D.stay, erase_spec S R.deeper (O := D.own) (by omega) (by omega) hn fun al' h₅ tk₇ O' S' => ?_⟩
        have D := Led.call0 D O' S'
        refine ⟨(by nofun), ?_⟩
        repeat refine b_execs_nil ?_
        exact k _ _ _ D.own D.step
    · have hb' : (c == 8 || c == 127) = false := by simpa using hb
      rw [hb', if_neg (by decide)]
      refine b_execs_cons ?_
      refine b_If ?_
      refine b_isTrue_And ?_
      refine b_isTrue_Compare ?_
      refine b_local D rfl ?_
      refine b_int ?_
      refine of_any (ne_int ?_)
      refine b_truthy_bool ?_
      by_cases h0 : c = 0
      · subst h0
        have hT : typF 0 line = ([], [], line) := rfl
        rw [hT] at k
        dsimp only at k
        rw [List.append_nil] at k
        rw [if_neg (by decide), if_neg (by decide)]
        repeat refine b_execs_nil ?_
        exact k Δ.al _ _ D.own D.step
      · have h0' : ¬ (c.toNat : Int) = 0 := by
          intro q
          apply h0
          rw [← UInt8.toNat_inj]
          show c.toNat = 0
          omega
        rw [if_pos (by simpa using h0')]
        refine b_isTrue_Compare ?_
        refine b_BinOp ?_
        refine b_callBlt S D PySem.boot_len ?_
        refine b_args ?_
        refine b_AttributeN ?_
        refine b_local D rfl ?_
        refine b_get 4 5 S D rfl rfl rfl (by kernel_rfl) rfl ?_
        refine b_args_nil ?_
        refine l_len (i := 6) D rfl (by simp) fun _ tk₂ => ?_
        refine b_callBlt S D PySem.boot_len ?_
        refine b_args ?_
        refine b_AttributeN ?_
        refine b_local D rfl ?_
        refine b_get 4 5 S D rfl rfl rfl (by kernel_rfl) rfl ?_
        refine b_args_nil ?_
        refine l_len (i := 7) D rfl (by simp; omega) fun _ tk₂ => ?_
        refine of_any (add_int ?_)
        refine b_AttributeN ?_
        refine b_local D rfl ?_
        refine b_get 4 5 S D rfl rfl rfl (by kernel_rfl) rfl ?_
        refine of_any (lt_int ?_)
        refine b_truthy_bool ?_
        rw [if_pos (by simp; omega)]
        refine b_execs_cons ?_
        refine b_Expr ?_ (by kernel_rfl) (by kernel_rfl)
        refine b_CallO ?_
        refine b_local D rfl ?_
        refine b_meth 4 5 S D rfl rfl rfl (f := 208) (by kernel_rfl) ?_
        dsimp only
        refine b_cwK (keep_208 _) ?_
        refine b_args ?_
        refine b_IfExp ?_
        refine b_isTrue_Compare ?_
        refine b_local D rfl ?_
        refine b_con S D (con_RETURN _) rfl ?_
        refine of_any (eq_int ?_)
        refine b_truthy_bool ?_
        have e13 : ((c.toNat : Int) == (13 : Int)) = (c == 13) := u8_eq c 13 (by omega)
        rw [e13]
        have hT : typF c line = (let e := if c = 13 then 10 else c
            if isEnd e = true then ([e], line ++ [e], []) else ([e], [], line ++ [e])) := by
          unfold typF; rw [if_neg h21, if_neg hb, if_neg h0]
        have fin : ∀ e : UInt8, e = (if c = 13 then 10 else c) → ∀ (hx : Heap) (tk : Nat) (t' : Tok), Led base h (dev w.params Δ out wait [] line) h.objs.size hx (Vars ([(Str.ofString "self", .ref Δ.c), (Str.ofString "octet", .int (c.toNat : Int) t)].reverse)) (dev w.params Δ out wait [] line) →
            wpB (model prog w) (A.deeper (envK w.params 201 h.objs.size [])) (call (.ref 208) [.ref Δ.c, .int (e.toNat : Int) t']) (fun v s' => (∀ a, v ≠ .ref a) ∧ Q .none s') NoE ⟨hx, g, d, tk, os⟩ := by
          intro e he hx tk t' D
          refine put_spec S R.deeper (O := D.own) hz (by omega) fun al' h₅ tk₇ O' S' => ?_
          have D := Led.call0 D O' S'
          refine ⟨(by nofun), ?_⟩
          refine k al' _ _ ?_ ?_
          · rw [hT]; dsimp only; rw [← he]
            have := D.own
            cases hE : isEnd e <;> rw [hE] at this <;> exact this
          · rw [hT]; dsimp only; rw [← he]
            have := D.step
            cases hE : isEnd e <;> rw [hE] at this <;> exact this
        by_cases h13 : c = 13
        · rw [if_pos (by simpa using h13)]
          refine b_con S D (con_FEED _) rfl ?_
          refine b_args_nil ?_
          refine ⟨S.here D.stay, ?_⟩
          refine b_mono (fin 10 (by rw [if_pos h13]) _ _ _ D) (fun v s' h' => ⟨h'.1, b_execs_nil (b_execs_nil (b_execs_nil (b_execs_nil h'.2)))⟩) fun _ _ z => z
        · rw [if_neg (by simpa using h13)]
          refine b_local D rfl ?_
          refine b_args_nil ?_
          refine ⟨S.here D.stay, ?_⟩
          refine b_mono (fin c (by rw [if_neg h13]) _ _ _ D) (fun v s' h' => ⟨h'.1, b_execs_nil (b_execs_nil (b_execs_nil (b_execs_nil h'.2)))⟩) fun _ _ z => z
end
end Mine
end

noncomputable section
namespace Mine
open PySem PySem.Calls PyProof.Rows PySem.W

noncomputable def RecV (wait : List UInt8) (v : Value) : Prop := match wait with
  | [] => v = .none
  | c :: _ => ∃ t, v = .int (c.toNat : Int) t
noncomputable def takeF : List UInt8 → List UInt8 → List UInt8 → List UInt8 × List UInt8 × List UInt8
  | [], rd, ln => ([], rd, ln)
  | c :: r, _, ln => ((typF c ln).1 ++ (takeF r (typF c ln).2.1 (typF c ln).2.2).1, (takeF r (typF c ln).2.1 (typF c ln).2.2).2)
noncomputable def okF : List UInt8 → List UInt8 → List UInt8 → Prop
  | [], _, _ => True
  | c :: r, rd, ln => rd = [] ∧ ln.length ≤ 38 ∧ okF r (typF c ln).2.1 (typF c ln).2.2
noncomputable def manyF : Nat → List UInt8 → Nat
  | 0, _ => 0
  | _ + 1, [] => 0
  | n + 1, c :: r => if c = 4 then 0 else if c = 10 then 1 else 1 + manyF n r
theorem manyF_le : ∀ (n : Nat) (l : List UInt8), manyF n l ≤ l.length
  | 0, _ => Nat.zero_le _
  | _ + 1, [] => Nat.zero_le _
  | n + 1, c :: r => by
    have := manyF_le n r
    unfold manyF
    split
    · omega
    · split <;> simp <;> omega

section
variable {prog : Program} {w : World} {A : Around} {E : Value → Shared → Prop} {base h₀ h : Heap} {l₀ l : List Item} {L : Addr} {g : Array GenState} {d : Drawn} {tk : Nat} {os : OsState} {ls : List (Str × Value)} {a : Addr} {cl : List (Str × Addr)} {s : Shared} {env : Env}
  {Δ : DevA} {out wait ready line : List UInt8}

theorem receive_spec {Q : Value → Shared → Prop} (S : Stat w base) (R : Room A 1)
    (O : Own base h (dev w.params Δ out wait ready line)) (hz : wait.length ≤ 1000)
    (k : ∀ n v h' tk', RecV wait v → Own base h' (dev w.params { Δ with aw := n } out wait.tail ready line) → Step h h' (dev w.params Δ out wait ready line) (dev w.params { Δ with aw := n } out wait.tail ready line) → Q v ⟨h', g, d, tk', os⟩) :
    wpB (model prog w) A (call (.ref 97) [.ref Δ.u]) Q NoE ⟨h, g, d, tk, os⟩ := by
  cases wait with
  | nil => exact receive_nil S R O fun h' tk' O' S' => k Δ.aw _ _ _ rfl O' S'
  | cons c r => exact receive_cons S R O (by simp at hz; omega) fun n h' tk' t O' S' => k n _ _ _ ⟨_, rfl⟩ O' S'

theorem take_spec {Q : Value → Shared → Prop} (S : Stat w base) (R : Room A 4)
    (O : Own base h (dev w.params Δ out wait ready line)) (hz : wait.length ≤ 1000) (hok : okF wait ready line) (hz' : (out ++ (takeF wait ready line).1).length ≤ 700000) (hz2 : (takeF wait ready line).2.1.length ≤ 1000)
    (k : ∀ al aw h' tk', Own base h' (dev w.params { Δ with al := al, aw := aw } (out ++ (takeF wait ready line).1) [] (takeF wait ready line).2.1 (takeF wait ready line).2.2) →
      Step h h' (dev w.params Δ out wait ready line) (dev w.params { Δ with al := al, aw := aw } (out ++ (takeF wait ready line).1) [] (takeF wait ready line).2.1 (takeF wait ready line).2.2) →
      Q (.bool (decide (0 < (takeF wait ready line).2.1.length))) ⟨h', g, d, tk', os⟩) :
    wpB (model prog w) A (call (.ref 187) [.ref Δ.c]) Q NoE ⟨h, g, d, tk, os⟩ := by
  refine b_callK (a := 187) S O (by kernel_rfl) R.lim (binds := [(Str.ofString "self", .ref Δ.c)]) (by kernel_rfl) (by kernel_rfl) fun h₁ tk₁ D => ?_
  rw [body_187]
  -- octet = self.uart.receive()
  refine b_execs_cons ?_
  refine b_Assign ?_ (by kernel_rfl) (by kernel_rfl)
  refine b_CallO ?_
  refine b_AttributeN ?_
  refine b_local D rfl ?_
  refine b_get 4 5 S D rfl rfl rfl (by kernel_rfl) rfl ?_
  refine b_meth 0 1 S D rfl rfl rfl (f := 97) (by kernel_rfl) ?_
  dsimp only
  refine b_cwK (keep_97 _) ?_
  refine b_args_nil ?_
  refine ⟨S.here D.stay, receive_spec S (R.less (m := 2) (by omega)).deeper (O := D.own) hz fun aw v h₂ tk₂ hv O' S' => ?_⟩
  have D := Led.call0 D O' S'
  refine b_assign_Name ?_
  refine b_store D fun h₃ tk₃ D => ?_
  refine b_execs_cons ?_
  refine b_While (fun n s => ∃ rest rd ln out' al aw hx tk lsx v, RecV rest v ∧ lsx.lookup (Str.ofString "octet") = some v ∧ lsx.lookup (Str.ofString "self") = some (.ref Δ.c) ∧ n = rest.length ∧ s = ⟨hx, g, d, tk, os⟩ ∧ rest.length ≤ 1000 ∧
      Led base h (dev w.params Δ out wait ready line) h.objs.size hx (Vars lsx) (dev w.params { Δ with al := al, aw := aw } out' rest.tail rd ln) ∧ okF rest rd ln ∧
      out' ++ (takeF rest rd ln).1 = out ++ (takeF wait ready line).1 ∧ (takeF rest rd ln).2 = (takeF wait ready line).2) wait.length
    ⟨wait, ready, line, out, Δ.al, aw, h₃, tk₃, _, v, hv, rfl, rfl, rfl, rfl, hz, D, hok, rfl, rfl⟩ ?_
  rintro n s ⟨rest, rd, ln, out', al, aw, hx, tk, lsx, v, hv, hlo, hls, rfl, rfl, hzr, D, hok, hO, hF⟩
  refine b_isTrue_Compare ?_
  refine b_local D hlo ?_
  refine b_none ?_
  cases rest with
  | nil =>
    obtain rfl : v = .none := hv
    refine of_any (isnot_none_none ?_)
    refine b_truthy_bool ?_
    rw [if_neg (by decide)]
    have hO : out' = out ++ (takeF wait ready line).1 := by rw [← hO]; exact (List.append_nil _).symm
    have hF : (rd, ln) = (takeF wait ready line).2 := hF
    subst hO
    have e1 : rd = (takeF wait ready line).2.1 := congrArg (·.1) hF
    have e2 : ln = (takeF wait ready line).2.2 := congrArg (·.2) hF
    subst e1 e2
    refine b_execs_cons ?_
    refine b_Return_some ?_
    refine b_Compare ?_
    refine b_callBlt S D PySem.boot_len ?_
    refine b_args ?_
    refine b_AttributeN ?_
    refine b_local D hls ?_
    refine b_get 4 5 S D rfl rfl rfl (by kernel_rfl) rfl ?_
    refine b_args_nil ?_
    refine l_len (i := 6) D rfl (by rw [List.size_toArray]; omega) fun t tk₂ => ?_
    refine b_int ?_
    refine of_any (gt_int ?_)
    have e : decide (((takeF wait ready line).2.1.toArray.size : Int) > 0) = decide (0 < (takeF wait ready line).2.1.length) := by
      rw [decide_eq_decide, List.size_toArray]; omega
    rw [e]
    exact k al aw _ _ D.own D.step
  | cons c r =>
    obtain ⟨t, rfl⟩ := hv
    obtain ⟨rfl, hln, hok⟩ := hok
    have hlen : out'.length ≤ 700000 := by
      have := congrArg List.length hO
      rw [List.length_append] at this
      omega
    refine of_any (isnot_int_none ?_)
    refine b_truthy_bool ?_
    rw [if_pos rfl]
    -- self.typed(octet)
    refine b_execs_cons ?_
    refine b_Expr ?_ (by kernel_rfl) (by kernel_rfl)
    refine b_CallO ?_
    refine b_local D hls ?_
    refine b_meth 4 5 S D rfl rfl rfl (f := 201) (by kernel_rfl) ?_
    dsimp only
    refine b_cwK (keep_201 _) ?_
    refine b_args ?_
    refine b_local D hlo ?_
    refine b_args_nil ?_
    refine ⟨S.here D.stay, typed_spec (Δ := { Δ with al := al, aw := aw }) S R.deeper (O := D.own) hln (by omega) fun al' h₄ tk₄ O' S' => ?_⟩
    have D := Led.call0 D O' S'
    refine ⟨(by nofun), ?_⟩
    -- octet = self.uart.receive()
    refine b_execs_cons ?_
    refine b_Assign ?_ (by kernel_rfl) (by kernel_rfl)
    refine b_CallO ?_
    refine b_AttributeN ?_
    refine b_local D hls ?_
    refine b_get 4 5 S D rfl rfl rfl (by kernel_rfl) rfl ?_
    refine b_meth 0 1 S D rfl rfl rfl (f := 97) (by kernel_rfl) ?_
    dsimp only
    refine b_cwK (keep_97 _) ?_
    refine b_args_nil ?_
    refine ⟨S.here D.stay, receive_spec (Δ := { Δ with al := al', aw := aw }) S (R.less (m := 2) (by omega)).deeper (O := D.own) (by simp at hzr ⊢; omega) fun aw' v h₅ tk₅ hv O' S' => ?_⟩
    have D := Led.call0 D O' S'
    refine b_assign_Name ?_
    refine b_store D fun h₆ tk₆ D => ?_
    refine b_execs_nil ?_
    refine ⟨r.length, by simp, r, (typF c ln).2.1, (typF c ln).2.2, out' ++ (typF c ln).1, al', aw', h₆, tk₆, (Str.ofString "octet", v) :: lsx, v, hv, rfl, hls, rfl, rfl, by simp at hzr; omega, D, hok, ?_, ?_⟩
    · rw [← hO, List.append_assoc]; rfl
    · rw [← hF]; rfl
end
end Mine
end

noncomputable section
set_option maxHeartbeats 4000000

namespace Mine
open PySem PySem.Calls PyProof.Rows PySem.W

theorem manyF_end {n : Nat} {r : List UInt8} {j : Nat} (hj : j < n) (hr : r[j]? = some 4) : manyF (n - j) (r.drop j) = 0 := by
  obtain ⟨hlt, he⟩ := List.getElem?_eq_some_iff.mp hr
  obtain ⟨m, hm⟩ : ∃ m, n - j = m + 1 := ⟨n - j - 1, by omega⟩
  rw [hm, List.drop_eq_getElem_cons hlt, he]; rfl
theorem manyF_feed {n : Nat} {r : List UInt8} {j : Nat} (hj : j < n) (hr : r[j]? = some 10) : manyF (n - j) (r.drop j) = 1 := by
  obtain ⟨hlt, he⟩ := List.getElem?_eq_some_iff.mp hr
  obtain ⟨m, hm⟩ : ∃ m, n - j = m + 1 := ⟨n - j - 1, by omega⟩
  rw [hm, List.drop_eq_getElem_cons hlt, he]; rfl
theorem manyF_step {n : Nat} {r : List UInt8} {j : Nat} {c : UInt8} (hj : j < n) (hr : r[j]? = some c) (h4 : c ≠ 4) (h10 : c ≠ 10) : manyF (n - j) (r.drop j) = 1 + manyF (n - (j + 1)) (r.drop (j + 1)) := by
  obtain ⟨hlt, he⟩ := List.getElem?_eq_some_iff.mp hr
  obtain ⟨m, hm⟩ : ∃ m, n - j = m + 1 := ⟨n - j - 1, by omega⟩
  have hm' : n - (j + 1) = m := by omega
  rw [hm, hm', List.drop_eq_getElem_cons hlt, he]
  show (if c = 4 then 0 else if c = 10 then 1 else 1 + manyF m (r.drop (j + 1))) = _
  rw [if_neg h4, if_neg h10]
theorem manyF_stop {n : Nat} {r : List UInt8} {j : Nat} (hj : ¬ (j < n ∧ j < r.length)) : manyF (n - j) (r.drop j) = 0 := by
  by_cases h : j < n
  · rw [List.drop_eq_nil_of_le (by omega)]
    cases n - j <;> rfl
  · rw [show n - j = 0 by omega]; rfl

section
variable {prog : Program} {w : World} {A : Around} {E : Value → Shared → Prop} {base h₀ h : Heap} {l₀ l : List Item} {L : Addr} {g : Array GenState} {d : Drawn} {tk : Nat} {os : OsState} {ls : List (Str × Value)} {a : Addr} {cl : List (Str × Addr)} {s : Shared} {env : Env}
  {Δ : DevA} {out wait ready line : List UInt8}

theorem read_zero {t : Tok} {Q : Value → Shared → Prop} (S : Stat w base) (R : Room A 1)
    (O : Own base h (dev w.params Δ out wait ready line))
    (k : ∀ h' tk' t, Own base h' (dev w.params Δ out wait ready line) → Step h h' (dev w.params Δ out wait ready line) (dev w.params Δ out wait ready line) → Q (.bytes #[] t) ⟨h', g, d, tk', os⟩) :
    wpB (model prog w) A (call (.ref 215) [.ref Δ.c, .int 0 t]) Q NoE ⟨h, g, d, tk, os⟩ := by
  refine b_callK (a := 215) S O (by kernel_rfl) R.lim (binds := [(Str.ofString "self", .ref Δ.c), (Str.ofString "count", .int 0 t)]) (by kernel_rfl) (by kernel_rfl) fun h₁ tk₁ D => ?_
  rw [body_215]
  refine b_execs_cons ?_
  refine b_If ?_
  refine b_isTrue_Compare ?_
  refine b_local D rfl ?_
  refine b_int ?_
  refine of_any (lt_int ?_)
  refine b_truthy_bool ?_
  rw [if_neg (by decide)]
  refine b_execs_nil ?_
  refine b_execs_cons ?_
  refine b_If ?_
  refine b_isTrue_Compare ?_
  refine b_local D rfl ?_
  refine b_int ?_
  refine of_any (eq_int ?_)
  refine b_truthy_bool ?_
  rw [if_pos (by decide)]
  refine b_execs_cons (b_Return_some ?_)
  refine b_bytes ?_
  exact k _ _ _ D.own D.step

theorem read_none {n : Nat} {t : Tok} {Q : Value → Shared → Prop} (S : Stat w base) (R : Room A 1) (hn : 0 < n)
    (O : Own base h (dev w.params Δ out wait [] line))
    (k : ∀ h' tk', Own base h' (dev w.params Δ out wait [] line) → Step h h' (dev w.params Δ out wait [] line) (dev w.params Δ out wait [] line) → Q .none ⟨h', g, d, tk', os⟩) :
    wpB (model prog w) A (call (.ref 215) [.ref Δ.c, .int (n : Int) t]) Q NoE ⟨h, g, d, tk, os⟩ := by
  refine b_callK (a := 215) S O (by kernel_rfl) R.lim (binds := [(Str.ofString "self", .ref Δ.c), (Str.ofString "count", .int (n : Int) t)]) (by kernel_rfl) (by kernel_rfl) fun h₁ tk₁ D => ?_
  rw [body_215]
  refine b_execs_cons ?_
  refine b_If ?_
  refine b_isTrue_Compare ?_
  refine b_local D rfl ?_
  refine b_int ?_
  refine of_any (lt_int ?_)
  refine b_truthy_bool ?_
  rw [if_neg (by simp)]
  refine b_execs_nil ?_
  refine b_execs_cons ?_
  refine b_If ?_
  refine b_isTrue_Compare ?_
  refine b_local D rfl ?_
  refine b_int ?_
  refine of_any (eq_int ?_)
  refine b_truthy_bool ?_
  rw [if_neg (by simp; omega)]
  refine b_execs_nil ?_
  refine b_execs_cons ?_
  refine b_If ?_
  refine b_isTrue_Compare ?_
  refine b_callBlt S D PySem.boot_len ?_
  refine b_args ?_
  refine b_AttributeN ?_
  refine b_local D rfl ?_
  refine b_get 4 5 S D rfl rfl rfl (by kernel_rfl) rfl ?_
  refine b_args_nil ?_
  refine l_len (i := 6) D rfl (by simp) fun _ tk₂ => ?_
  refine b_int ?_
  refine of_any (eq_int ?_)
  refine b_truthy_bool ?_
  rw [if_pos (by simp)]
  refine b_execs_cons (b_Return_some ?_)
  refine b_none ?_
  exact k _ _ D.own D.step

theorem read_some {n : Nat} {t : Tok} {Q : Value → Shared → Prop} (S : Stat w base) (R : Room A 1) (hn : 0 < n) (hr : ready ≠ []) (hz : ready.length ≤ 1000)
    (O : Own base h (dev w.params Δ out wait ready line))
    (k : ∀ ar h' tk' t, Own base h' (dev w.params { Δ with ar := ar } out wait (ready.drop (if manyF n ready = 0 then 1 else manyF n ready)) line) →
      Step h h' (dev w.params Δ out wait ready line) (dev w.params { Δ with ar := ar } out wait (ready.drop (if manyF n ready = 0 then 1 else manyF n ready)) line) → Q (.bytes (ready.take (manyF n ready)).toArray t) ⟨h', g, d, tk', os⟩) :
    wpB (model prog w) A (call (.ref 215) [.ref Δ.c, .int (n : Int) t]) Q NoE ⟨h, g, d, tk, os⟩ := by
  have hr1 : 1 ≤ ready.length := by cases ready <;> simp_all
  refine b_callK (a := 215) S O (by kernel_rfl) R.lim (binds := [(Str.ofString "self", .ref Δ.c), (Str.ofString "count", .int (n : Int) t)]) (by kernel_rfl) (by kernel_rfl) fun h₁ tk₁ D => ?_
  rw [body_215]
  refine b_execs_cons ?_
  refine b_If ?_
  refine b_isTrue_Compare ?_
  refine b_local D rfl ?_
  refine b_int ?_
  refine of_any (lt_int ?_)
  refine b_truthy_bool ?_
  rw [if_neg (by simp)]
  refine b_execs_nil ?_
  refine b_execs_cons ?_
  refine b_If ?_
  refine b_isTrue_Compare ?_
  refine b_local D rfl ?_
  refine b_int ?_
  refine of_any (eq_int ?_)
  refine b_truthy_bool ?_
  rw [if_neg (by simp; omega)]
  refine b_execs_nil ?_
  refine b_execs_cons ?_
  refine b_If ?_
  refine b_isTrue_Compare ?_
  refine b_callBlt S D PySem.boot_len ?_
  refine b_args ?_
  refine b_AttributeN ?_
  refine b_local D rfl ?_
  refine b_get 4 5 S D rfl rfl rfl (by kernel_rfl) rfl ?_
  refine b_args_nil ?_
  refine l_len (i := 6) D rfl (by simp; omega) fun _ tk₂ => ?_
  refine b_int ?_
  refine of_any (eq_int ?_)
  refine b_truthy_bool ?_
  rw [if_neg (by simp; omega)]
  refine b_execs_nil ?_
  -- many = 0
  refine b_execs_cons ?_
  refine b_Assign ?_ (by kernel_rfl) (by kernel_rfl)
  refine b_int ?_
  refine b_assign_Name ?_
  refine b_store D fun h₃ tk₃ D => ?_
  -- behind the loop
  have fin : ∀ (hx : Heap) (tk : Nat) (lsx : List (Str × Value)) (u : Tok), lsx.lookup (Str.ofString "many") = some (.int (manyF n ready : Nat) u) → lsx.lookup (Str.ofString "self") = some (.ref Δ.c) →
      Led base h (dev w.params Δ out wait ready line) h.objs.size hx (Vars lsx) (dev w.params Δ out wait ready line) →
      wpB (model prog w) (A.deeper (envK w.params 215 h.objs.size [])) (execs (body215.drop 5) (envK w.params 215 h.objs.size [])) (fun f s' => Q (match f with | .ret v => v | _ => .none) s') NoE ⟨hx, g, d, tk, os⟩ := by
    intro hx tk lsx u hm hs D
    have hle := manyF_le n ready
    refine b_execs_cons ?_
    refine b_Assign ?_ (by kernel_rfl) (by kernel_rfl)
    refine b_callBlt S D PyProof.Rows.boot_bytes ?_
    refine b_args ?_
    refine b_SliceOf ?_
    refine b_AttributeN ?_
    refine b_local D hs ?_
    refine b_get 4 5 S D rfl rfl rfl (by kernel_rfl) rfl ?_
    refine b_part_none ?_
    refine b_part_some ?_
    refine b_local D hm ?_
    refine l_slice (i := 6) D rfl .none (.int _ _) ?_ fun n₁ h₃ tk₅ D => ?_
    · exact Nat.le_trans (KBc.size_picked_le _ _ _) (by simp; omega)
    rw [picked_take ready _ hle] at D
    refine b_args_nil ?_
    refine l_bytes (i := 0) D rfl (by simp; omega) fun t₁ tk₂ => ?_
    have D := D.drop1
    refine b_assign_Name ?_
    refine b_store D fun h₄ tk₄ D => ?_
    refine b_execs_cons ?_
    refine b_Assign ?_ (by kernel_rfl) (by kernel_rfl)
    refine b_SliceOf ?_
    refine b_AttributeN ?_
    refine b_local D hs ?_
    refine b_get 4 5 S D rfl rfl rfl (by kernel_rfl) rfl ?_
    refine b_part_some ?_
    refine b_IfExp ?_
    refine b_isTrue_Compare ?_
    refine b_local D hm ?_
    refine b_int ?_
    refine of_any (eq_int ?_)
    refine b_truthy_bool ?_
    by_cases h0 : manyF n ready = 0
    · rw [if_pos (by simpa using h0)]
      refine b_int ?_
      refine b_part_none ?_
      refine l_slice (i := 6) D rfl (.int _ _) .none ?_ fun n₁ h₃ tk₅ D => ?_
      · exact Nat.le_trans (KBc.size_picked_le _ _ _) (by simp; omega)
      have e5 : KBy.picked ready.toArray (some 1) none = (ready.drop (if manyF n ready = 0 then 1 else manyF n ready)).toArray := by
        rw [if_pos h0]; exact picked_drop ready 1 hr1
      rw [e5] at D
      refine b_assign_Attribute ?_
      refine b_local D hs ?_
      refine b_set 5 6 S D rfl rfl (by kernel_rfl) (by simp [conRows]) fun h₄ tk₆ D => ?_
      have D := D.pick [1, 2, 3, 4, 5, 6, 0, 8]
      rw [put_ready] at D
      refine b_execs_cons (b_Return_some ?_)
      refine b_local D rfl ?_
      exact k n₁ _ _ _ D.own D.step
    · rw [if_neg (by simpa using h0)]
      refine b_local D hm ?_
      refine b_part_none ?_
      refine l_slice (i := 6) D rfl (.int _ _) .none ?_ fun n₁ h₃ tk₅ D => ?_
      · exact Nat.le_trans (KBc.size_picked_le _ _ _) (by simp; omega)
      have e5 : KBy.picked ready.toArray (some ((manyF n ready : Nat) : Int)) none = (ready.drop (if manyF n ready = 0 then 1 else manyF n ready)).toArray := by
        rw [if_neg h0]; exact picked_drop ready _ hle
      rw [e5] at D
      refine b_assign_Attribute ?_
      refine b_local D hs ?_
      refine b_set 5 6 S D rfl rfl (by kernel_rfl) (by simp [conRows]) fun h₄ tk₆ D => ?_
      have D := D.pick [1, 2, 3, 4, 5, 6, 0, 8]
      rw [put_ready] at D
      refine b_execs_cons (b_Return_some ?_)
      refine b_local D rfl ?_
      exact k n₁ _ _ _ D.own D.step
  refine b_execs_cons ?_
  refine b_While (fun m s => ∃ j hx tk lsx u, m = ready.length - j ∧ j ≤ ready.length ∧ lsx.lookup (Str.ofString "many") = some (.int (j : Nat) u) ∧ lsx.lookup (Str.ofString "self") = some (.ref Δ.c) ∧ lsx.lookup (Str.ofString "count") = some (.int (n : Nat) t) ∧ s = ⟨hx, g, d, tk, os⟩ ∧
      Led base h (dev w.params Δ out wait ready line) h.objs.size hx (Vars lsx) (dev w.params Δ out wait ready line) ∧ manyF n ready = j + manyF (n - j) (ready.drop j)) ready.length
    ⟨0, h₃, tk₃, _, _, rfl, Nat.zero_le _, rfl, rfl, rfl, rfl, D, by simp⟩ ?_
  rintro m s ⟨j, hx, tk, lsx, u, rfl, hj, hm, hs, hcn, rfl, D, hF⟩
  refine b_isTrue_And ?_
  refine b_isTrue_Compare ?_
  refine b_local D hm ?_
  refine b_local D hcn ?_
  refine of_any (lt_int ?_)
  refine b_truthy_bool ?_
  have done : ∀ tk, ¬ (j < n ∧ j < ready.length) → wpB (model prog w) (A.deeper (envK w.params 215 h.objs.size [])) (execs (body215.drop 5) (envK w.params 215 h.objs.size [])) (fun f s' => Q (match f with | .ret v => v | _ => .none) s') NoE ⟨hx, g, d, tk, os⟩ := by
    intro tk hst
    rw [manyF_stop hst] at hF
    refine fin hx tk lsx u ?_ hs D
    rw [hF]; exact hm
  by_cases hjn : j < n
  · rw [if_pos (by simpa using hjn)]
    refine b_isTrue_Compare ?_
    refine b_local D hm ?_
    refine b_callBlt S D PySem.boot_len ?_
    refine b_args ?_
    refine b_AttributeN ?_
    refine b_local D hs ?_
    refine b_get 4 5 S D rfl rfl rfl (by kernel_rfl) rfl ?_
    refine b_args_nil ?_
    refine l_len (i := 6) D rfl (by simp; omega) fun _ tk₂ => ?_
    refine of_any (lt_int ?_)
    refine b_truthy_bool ?_
    by_cases hjr : j < ready.length
    · rw [if_pos (by simpa using hjr)]
      have hc : ready[j]? = some ready[j] := by simp [hjr]
      generalize ready[j] = c at hc
      have hcl := c.toNat_lt
      -- octet = self.ready[many]
      refine b_execs_cons ?_
      refine b_Assign ?_ (by kernel_rfl) (by kernel_rfl)
      refine b_Item ?_
      refine b_AttributeN ?_
      refine b_local D hs ?_
      refine b_get 4 5 S D rfl rfl rfl (by kernel_rfl) rfl ?_
      refine b_local D hm ?_
      refine l_item (i := 6) (c := c) D rfl (by simp; omega) (by omega) (by simpa using hc) fun t' tk₃ => ?_
      refine b_assign_Name ?_
      refine b_store D fun h₄ tk₄ D => ?_
      -- if octet == END: break
      refine b_execs_cons ?_
      refine b_If ?_
      refine b_isTrue_Compare ?_
      refine b_local D rfl ?_
      refine b_con S D (con_END _) rfl ?_
      refine of_any (eq_int ?_)
      refine b_truthy_bool ?_
      have e4 : ((c.toNat : Int) == (4 : Int)) = (c == 4) := u8_eq c 4 (by omega)
      rw [e4]
      by_cases h4 : c = 4
      · rw [if_pos (by simpa using h4)]
        refine b_execs_cons (b_Break ?_)
        rw [h4] at hc
        rw [manyF_end hjn hc] at hF
        refine fin _ _ ((Str.ofString "octet", _) :: lsx) u ?_ hs D
        rw [hF]; exact hm
      · rw [if_neg (by simpa using h4)]
        refine b_execs_nil ?_
        -- many += 1
        refine b_execs_cons ?_
        refine b_AugAssign ?_
        refine b_ldn D hm ?_
        refine b_int ?_
        refine of_any (iadd_int ?_)
        refine b_store D fun h₅ tk₅ D => ?_
        -- if octet == FEED: break
        refine b_execs_cons ?_
        refine b_If ?_
        refine b_isTrue_Compare ?_
        refine b_local D rfl ?_
        refine b_con S D (con_FEED _) rfl ?_
        refine of_any (eq_int ?_)
        refine b_truthy_bool ?_
        have e10 : ((c.toNat : Int) == (10 : Int)) = (c == 10) := u8_eq c 10 (by omega)
        rw [e10]
        by_cases h10 : c = 10
        · rw [if_pos (by simpa using h10)]
          refine b_execs_cons (b_Break ?_)
          rw [h10] at hc
          rw [manyF_feed hjn hc] at hF
          have hm' : ∀ v : Value, List.lookup (Str.ofString "many") ((Str.ofString "many", v) :: (Str.ofString "octet", .int (c.toNat : Int) t') :: lsx) = some v := fun v => rfl
          refine fin _ _ _ _ ((hm' _).trans (by rw [hF]; rfl)) hs D
        · rw [if_neg (by simpa using h10)]
          refine b_execs_nil (b_execs_nil ?_)
          rw [manyF_step hjn hc h4 h10] at hF
          exact ⟨ready.length - (j + 1), by omega, j + 1, _, _, (Str.ofString "many", .int ((j : Nat) + 1) _) :: (Str.ofString "octet", _) :: lsx, _, rfl, hjr, rfl, hs, hcn, rfl, D, by omega⟩
    · rw [if_neg (by simpa using hjr)]
      exact done _ fun q => hjr q.2
  · rw [if_neg (by simpa using hjn), if_neg (by decide)]
    exact done _ fun q => hjn q.1
end
end Mine
end

noncomputable section
namespace Mine
open PySem PySem.Calls PyProof.Rows PySem.W

noncomputable def anyL (vs : List Value) : Obj → Prop := fun o => o.cls = .type "list" ∧ ∃ n, o.data = .seq vs.toArray n
theorem lst_any {vs : List Value} : ∀ o, lstP vs o → anyL vs o := by rintro o ⟨n, rfl⟩; exact ⟨rfl, n, rfl⟩
theorem any_any {vs : List Value} : ∀ o, anyL vs o → anyL vs o := fun _ h => h

section
variable {prog : Program} {w : World} {A : Around} {E : Value → Shared → Prop} {base h₀ h : Heap} {l₀ l : List Item} {L : Addr} {g : Array GenState} {d : Drawn} {tk : Nat} {os : OsState} {ls : List (Str × Value)} {a : Addr} {cl : List (Str × Addr)} {s : Shared} {env : Env}
  {m : Str → Option Value} {i j : Nat} {x y : Addr} {P P' : Obj → Prop} {vs ws : List Value} {ns ms : List Int}

theorem Led.isList (D : Led base h₀ l₀ L h m l) (hi : l[i]? = some (x, P)) (hP : ∀ o, P o → anyL vs o) : h.IsList x vs.toArray := by
  obtain ⟨o, ho, q⟩ := D.at hi
  exact ⟨o, ho, (hP o q).1, (hP o q).2⟩
theorem l_lenL {Q : Value → Shared → Prop} (D : Led base h₀ l₀ L h m l) (hi : l[i]? = some (x, P)) (hP : ∀ o, P o → anyL vs o) (hz : vs.length ≤ 1000)
    (k : ∀ t tk', Q (.int vs.length t) ⟨h, g, d, tk', os⟩) : wpB (model prog w) A (call (.builtin "len") [.ref x]) Q E ⟨h, g, d, tk, os⟩ :=
  of_any (call_len_list (s := ⟨h, g, d, tk, os⟩) (D.isList hi hP) (by rw [List.size_toArray]; omega) (by rw [List.size_toArray]; exact k _ _))
theorem l_itemL {k : Int} {u : Tok} {v : Value} {value slice : Expr} {Q : Value → Shared → Prop} (D : Led base h₀ l₀ L h m l) (hi : l[i]? = some (x, P)) (hP : ∀ o, P o → anyL vs o)
    (h0 : 0 ≤ k) (hx : vs[k.toNat]? = some v) (hz : vs.length ≤ 1000) (q : Q v ⟨h, g, d, tk, os⟩) (hs : notSlice slice = true := by rfl) : ItemTail (model prog w) A value slice (.ref x) (.int k u) Q E ⟨h, g, d, tk, os⟩ := by
  have hL := D.isList hi hP
  have hlt := (List.getElem?_eq_some_iff.mp hx).1
  exact item_tail (s := ⟨h, g, d, tk, os⟩) hL.typeIs slot_list_getitem.lookup (of_any (wpAny_getItem_list (s := ⟨h, g, d, tk, os⟩) hL h0 (by omega) (by simpa using hx) q)) hs
theorem l_sliceL {lo up : Option Expr} {p : Pos} {u v : Value} {lo' hi' : Option Int} {value : Expr} {Q : Value → Shared → Prop} (D : Led base h₀ l₀ L h m l) (hi : l[i]? = some (x, P)) (hP : ∀ o, P o → anyL vs o)
    (pu : IsPart u lo') (pv : IsPart v hi') (hz : vs.length ≤ 1000)
    (k : ∀ n h' tk', Led base h₀ l₀ L h' m ((n, lstP (slicePick vs.toArray lo' hi' none).toList) :: l) → Q (.ref n) ⟨h', g, d, tk', os⟩) :
    SliceTail (model prog w) A value (.Slice lo up none p) (.ref x) u v Q E ⟨h, g, d, tk, os⟩ := by
  have D1 := D.grow (h' := h.push { cls := .type "slice", data := .fields #[u, v, .none] }) fun b o' e => Heap.get?_push_of_some _ e
  have hL := D1.isList hi hP
  refine slice_tail list_getitem_lookup ⟨hL.typeIs (s := ⟨h.push _, g, d, tk, os⟩), of_any (wpAny_getItem_list_slice (s := ⟨h.push { cls := .type "slice", data := .fields #[u, v, .none] }, g, d, tk, os⟩) hL (Heap.IsSliceOf.new ..) pu pv .none (by simp) ?_ (by rw [List.size_toArray, sizeLine_eq]; omega))⟩
  exact k _ _ _ (D1.push _ ⟨0, rfl⟩)
theorem l_addL {Q : Value → Shared → Prop} (D : Led base h₀ l₀ L h m l) (hi : l[i]? = some (x, lstP vs)) (hj : l[j]? = some (y, lstP ws)) (hz : vs.length + ws.length ≤ 1000)
    (k : ∀ n h' tk', Led base h₀ l₀ L h' m ((n, lstP (vs ++ ws)) :: l) → Q (.ref n) ⟨h', g, d, tk', os⟩) : wpB (model prog w) A (binaryOp .Add (.ref x) (.ref y)) Q E ⟨h, g, d, tk, os⟩ := by
  obtain ⟨o, ho, n, rfl⟩ := D.at hi
  obtain ⟨o, ho', n', rfl⟩ := D.at hj
  refine of_any (PySem.P.add_list (s := ⟨h, g, d, tk, os⟩) ho ho' ?_ (by rw [List.size_toArray, List.size_toArray, sizeLine_eq]; omega))
  refine k _ _ _ (D.push _ ⟨0, ?_⟩)
  rw [List.append_toArray]
theorem foldl_replicate {α : Type} (v : List α) : ∀ n : Nat, ∀ acc : Array α, List.foldl (fun x1 x2 => x1 ++ x2) acc (List.replicate n v.toArray) = acc ++ (List.replicate n v).flatten.toArray
  | 0, acc => by simp
  | n + 1, acc => by
    rw [List.replicate_succ, List.foldl_cons, foldl_replicate v n, List.replicate_succ, List.flatten_cons]
    simp
theorem l_mulL {n : Int} {t : Tok} {Q : Value → Shared → Prop} (D : Led base h₀ l₀ L h m l) (hi : l[i]? = some (x, lstP vs)) (h0 : 0 ≤ n) (h1 : n ≤ 1000) (hz : vs.length ≤ 1000) (hne : vs ≠ [])
    (k : ∀ c h' tk', Led base h₀ l₀ L h' m ((c, lstP (List.replicate n.toNat vs).flatten) :: l) → Q (.ref c) ⟨h', g, d, tk', os⟩) : wpB (model prog w) A (binaryOp .Mult (.ref x) (.int n t)) Q E ⟨h, g, d, tk, os⟩ := by
  obtain ⟨o, ho, c, rfl⟩ := D.at hi
  have hne' : vs.toArray.isEmpty = false := by cases vs <;> simp_all
  have hsz : vs.toArray.size * n.toNat ≤ 2 ^ 24 := by
    rw [List.size_toArray]
    have : vs.length * n.toNat ≤ 1000 * 1000 := Nat.mul_le_mul hz (by omega)
    omega
  refine of_any (wpAny_binaryOp_repeat_ref (s := ⟨h, g, d, tk, os⟩) (T := "list") (U := "int") (by decide) ⟨_, ho, rfl⟩ (fun s' => typeIs_int s' n t) noFill_list_mul PySem.F.fills_int_mul PySem.F.slot_int_rmul repeat_list PySem.F.slot_int_index.lookup
    (call_meets PySem.F.slot_int_rmul (typeIs_int _ n t) PySem.F.entry_int_rmul (PySem.F.args_int_rmul_2 _ _) (int___rmul___int_list n t x vs.toArray c) ⟨ho, rfl, ⟨_, ho, rfl⟩, ?_⟩))
  refine call_meets (s := ⟨h, g, d, tk, os⟩) PySem.F.slot_list_mul ⟨_, ho, rfl⟩ PySem.F.entry_list_mul (PySem.F.args_list_mul_2 _ _)
    (AutoListH.list___mul___list_int_3 x vs.toArray c n t (by simp [Builtin.List.listFitsIndex]; omega) (by omega) (by simp [Builtin.List.listTooLong, sizeLine]; rw [List.size_toArray] at hsz; omega)) ⟨ho, ?_⟩
  refine k _ _ _ (D.push _ ⟨0, ?_⟩)
  rw [hne']
  simp only [Bool.false_eq_true, if_false]
  rw [foldl_replicate]
  simp
theorem l_eqInts {Q : Value → Shared → Prop} (D : Led base h₀ l₀ L h m l) (hi : l[i]? = some (x, lstP vs)) (hj : l[j]? = some (y, lstP ws)) (hv : IntsAre vs ns) (hw : IntsAre ws ms) (hu : A.units + 64 < cLine)
    (k : Q (.bool (decide (ns = ms))) ⟨h, g, d, tk, os⟩) : wpB (model prog w) A (compareOp .Eq (.ref x) (.ref y)) Q E ⟨h, g, d, tk, os⟩ :=
  of_any (ke_eq_ints (s := ⟨h, g, d, tk, os⟩) (D.isList hi lst_any) (D.isList hj lst_any) hv hw hu k)
theorem l_neInts {Q : Value → Shared → Prop} (D : Led base h₀ l₀ L h m l) (hi : l[i]? = some (x, lstP vs)) (hj : l[j]? = some (y, lstP ws)) (hv : IntsAre vs ns) (hw : IntsAre ws ms) (hu : A.units + 64 < cLine)
    (k : Q (.bool (!decide (ns = ms))) ⟨h, g, d, tk, os⟩) : wpB (model prog w) A (compareOp .NotEq (.ref x) (.ref y)) Q E ⟨h, g, d, tk, os⟩ :=
  of_any (ke_ne_ints (s := ⟨h, g, d, tk, os⟩) (D.isList hi lst_any) (D.isList hj lst_any) hv hw hu k)
theorem l_methL {name : Str} {id : String} {pl : Sem Bool} {Q : Value × List Value → Shared → Prop} (D : Led base h₀ l₀ L h m l) (hi : l[i]? = some (x, lstP vs)) (slot : Slot "list" name id) (hty : typeOf (.builtin id) = pure (.type "method_descriptor"))
    (k : Q (.builtin id, [.ref x]) ⟨h, g, d, tk, os⟩) : wpB (model prog w) A (getMethod (.ref x) name pl) Q E ⟨h, g, d, tk, os⟩ := by
  obtain ⟨o, ho, n, rfl⟩ := D.at hi
  exact of_any (getMethod_builtin (s := ⟨h, g, d, tk, os⟩) ⟨_, ho, rfl⟩ PySem.F.plainAttrs_list slot hty (fun a e => by cases e; exact ⟨_, ho, rfl⟩) k)
theorem l_appendL {v : Value} {Q : Value → Shared → Prop} (D : Led base h₀ l₀ L h m l) (hi : l[i]? = some (x, lstP vs)) (hz : vs.length ≤ 1000)
    (k : ∀ h' tk', Led base h₀ l₀ L h' m (l.set i (x, lstP (vs ++ [v]))) → Q .none ⟨h', g, d, tk', os⟩) : wpB (model prog w) A (call (.builtin "list.append") [.ref x, v]) Q E ⟨h, g, d, tk, os⟩ := by
  obtain ⟨o, ho, n, rfl⟩ := D.at hi
  refine of_any (append_at (s := ⟨h, g, d, tk, os⟩) ho (fun h' hs ho' => k _ _ (D.upd hi hs ho' ⟨n + 1, ?_⟩)) (by rw [List.size_toArray, sizeLine_eq]; omega))
  simp
theorem l_pop0 {v : Value} {t : Tok} {Q : Value → Shared → Prop} (D : Led base h₀ l₀ L h m l) (hi : l[i]? = some (x, lstP (v :: vs))) (hz : vs.length ≤ 1000)
    (k : ∀ h' tk', Led base h₀ l₀ L h' m (l.set i (x, lstP vs)) → Q v ⟨h', g, d, tk', os⟩) : wpB (model prog w) A (call (.builtin "list.pop") [.ref x, .int 0 t]) Q E ⟨h, g, d, tk, os⟩ := by
  obtain ⟨o, ho, n, rfl⟩ := D.at hi
  refine of_any (call_meets PySem.F.slot_list_pop ⟨_, ho, rfl⟩ PySem.F.entry_list_pop (PySem.F.args_list_pop_2 _ _) (PySem.MeetsSeq.list_pop_at x _ n 0 t 0 v (by decide) (by simp [seqIndex?]) (by simp) (by rw [List.size_toArray, List.length_cons, sizeLine_eq]; omega)) ⟨ho, ?_⟩)
  have q := PySem.IsL.update ho (fun xs => xs.eraseIdxIfInBounds 0)
  have e : ((v :: vs).toArray.eraseIdxIfInBounds 0) = vs.toArray := kl_erase [] vs v
  rw [e] at q
  exact k _ _ (D.upd hi (Heap.SameBut.update ..) q ⟨_, rfl⟩)
theorem l_setItemL {n : Int} {t : Tok} {v : Value} {Q : Unit → Shared → Prop} (D : Led base h₀ l₀ L h m l) (hi : l[i]? = some (x, P)) (hP : ∀ o, P o → anyL vs o) (h0 : 0 ≤ n) (hn : n < vs.length) (hz : vs.length ≤ 1000)
    (k : ∀ h' tk', Led base h₀ l₀ L h' m (l.set i (x, anyL (vs.set n.toNat v))) → Q () ⟨h', g, d, tk', os⟩) : wpB (model prog w) A (setItem (.ref x) (.int n t) v) Q E ⟨h, g, d, tk, os⟩ := by
  refine of_any (wpAny_setItem_list (s := ⟨h, g, d, tk, os⟩) (D.isList hi hP) h0 (by omega) (by simpa using hn) fun h' hL hs => ?_)
  obtain ⟨o', ho', hc, n', hd⟩ := hL
  refine k _ _ (D.upd hi hs ho' ⟨hc, n', ?_⟩)
  rw [hd]; simp
end
end Mine
end

noncomputable section
namespace Mine
open PySem PySem.Calls PyProof.Rows PySem.W

noncomputable def body229 : List Stmt := inner (topSt 8)
noncomputable def body236 : List Stmt := inner (topSt 9)
noncomputable def body243 : List Stmt := inner (topSt 10)
noncomputable def body250 : List Stmt := inner (topSt 11)
noncomputable def body257 : List Stmt := inner (topSt 12)
theorem body_229 (P : Params) : bodyK P 229 = body229 := by kernel_rfl
theorem body_236 (P : Params) : bodyK P 236 = body236 := by kernel_rfl
theorem body_243 (P : Params) : bodyK P 243 = body243 := by kernel_rfl
theorem body_250 (P : Params) : bodyK P 250 = body250 := by kernel_rfl
theorem body_257 (P : Params) : bodyK P 257 = body257 := by kernel_rfl
theorem keep_229 (P : Params) : keepIn (KW P) (.ref 229) = true := by kernel_rfl
theorem keep_236 (P : Params) : keepIn (KW P) (.ref 236) = true := by kernel_rfl
theorem glob_take (P : Params) : nsIn (KW P) mainGlobals (Str.ofString "_law_take") = some (some (.ref 229)) := by kernel_rfl
theorem glob_more (P : Params) : nsIn (KW P) mainGlobals (Str.ofString "_law_more") = some (some (.ref 236)) := by kernel_rfl

/-- the box of the script: what is left of it, and a count -/
noncomputable def boxP (si : Addr) : Obj → Prop := fun o => ∃ kt : Int × Tok, anyL [.ref si, .int kt.1 kt.2] o
noncomputable def scrP : Obj → Prop := fun o => ∃ ns : List Int, ns.length ≤ 63 ∧ ilP ns o
noncomputable def boxL (bx si : Addr) : List Item := [(bx, boxP si), (si, scrP)]

theorem fmod_in {n m : Int} (hm : 0 < m) : 0 ≤ n.fmod m ∧ n.fmod m < m := by
  rw [Int.fmod_eq_emod_of_nonneg _ (Int.le_of_lt hm)]
  exact ⟨Int.emod_nonneg _ (by omega), Int.emod_lt_of_pos _ hm⟩

section
variable {prog : Program} {w : World} {A : Around} {E : Value → Shared → Prop} {base h₀ h : Heap} {l₀ l : List Item} {L : Addr} {g : Array GenState} {d : Drawn} {tk : Nat} {os : OsState} {ls : List (Str × Value)} {a : Addr} {cl : List (Str × Addr)} {s : Shared} {env : Env}
  {m : Str → Option Value} {i j : Nat} {x y : Addr} {P P' : Obj → Prop}

theorem Led.say (D : Led base h₀ l₀ L h m l) (hi : l[i]? = some (x, P)) (hP : ∀ o, h.get? x = some o → P o → P' o) : Led base h₀ l₀ L h m (l.set i (x, P')) := by
  obtain ⟨o, ho, hp⟩ := D.at hi
  refine D.weaken _ (map_fst_set l i x _ _ hi) fun p hp' => ?_
  obtain ⟨j, hj⟩ := List.mem_iff_getElem?.mp hp'
  rw [List.getElem?_set] at hj
  split at hj
  · split at hj
    · cases hj; exact ⟨o, ho, hP o ho hp⟩
    · cases hj
  · exact D.own.get p (List.mem_of_getElem? hj)
theorem Led.ex {α : Type} {P' : α → Obj → Prop} (D : Led base h₀ l₀ L h m l) (hi : l[i]? = some (x, P)) (hP : ∀ o, P o → ∃ a, P' a o) : ∃ a, Led base h₀ l₀ L h m (l.set i (x, P' a)) := by
  obtain ⟨o, ho, hp⟩ := D.at hi
  obtain ⟨a, ha⟩ := hP o hp
  exact ⟨a, D.say hi fun o' ho' _ => by rw [ho] at ho'; cases ho'; exact ha⟩


/-- the box is opened -/
theorem Led.openBox {bx si : Addr} {rest : List Item} (D : Led base h₀ l₀ L h m (boxL bx si ++ rest)) :
    ∃ (kt : Int × Tok) (ns : List Int) (vs : List Value), ns.length ≤ 63 ∧ IntsAre vs ns ∧ Led base h₀ l₀ L h m ((bx, anyL [.ref si, .int kt.1 kt.2]) :: (si, lstP vs) :: rest) := by
  obtain ⟨kt, D⟩ := D.ex (i := 0) (α := Int × Tok) (P' := fun kt => anyL [.ref si, .int kt.1 kt.2]) rfl fun o h => h
  obtain ⟨⟨ns, vs⟩, D⟩ := D.ex (i := 1) (x := si) (P := scrP) (α := List Int × List Value) (P' := fun p o => p.1.length ≤ 63 ∧ IntsAre p.2 p.1 ∧ lstP p.2 o) rfl fun o ⟨ns, h1, vs, h2, h3⟩ => ⟨(ns, vs), h1, h2, h3⟩
  obtain ⟨o, ho, h1, h2, h3⟩ := D.at (i := 1) rfl
  exact ⟨kt, ns, vs, h1, h2, D.say (i := 1) rfl fun o _ h => h.2.2⟩
theorem Led.shutBox {bx si : Addr} {rest : List Item} {k : Int} {t : Tok} {ns : List Int} {vs : List Value} (D : Led base h₀ l₀ L h m ((bx, anyL [.ref si, .int k t]) :: (si, lstP vs) :: rest)) (hn : ns.length ≤ 63) (hv : IntsAre vs ns) :
    Led base h₀ l₀ L h m (boxL bx si ++ rest) := by
  have D := D.say (i := 0) (P' := boxP si) rfl fun o _ h => ⟨(k, t), h⟩
  exact D.say (i := 1) (x := si) (P := lstP vs) (P' := scrP) rfl fun o _ h => ⟨ns, hn, vs, hv, h⟩

theorem lawtake_spec {bx si : Addr} {n : Int} {t : Tok} {Q : Value → Shared → Prop} (S : Stat w base) (R : Room A 1) (hn : 0 < n)
    (O : Own base h (boxL bx si))
    (k : ∀ r h' tk' t, 0 ≤ r → r < n → Own base h' (boxL bx si) → Step h h' (boxL bx si) (boxL bx si) → Q (.int r t) ⟨h', g, d, tk', os⟩) :
    wpB (model prog w) A (call (.ref 229) [.ref bx, .int n t]) Q NoE ⟨h, g, d, tk, os⟩ := by
  refine b_callK (a := 229) S O (by kernel_rfl) R.lim (binds := [(Str.ofString "box", .ref bx), (Str.ofString "many", .int n t)]) (by kernel_rfl) (by kernel_rfl) fun h₁ tk₁ D => ?_
  rw [body_229]
  obtain ⟨kt, ns, vs, hns, hv, D⟩ := Led.openBox (rest := []) D
  have hvl := hv.length
  have fin : ∀ (f : Int) (u : Tok) (hx : Heap) (tk : Nat) (lsx : List (Str × Value)), lsx.lookup (Str.ofString "figure") = some (.int f u) → lsx.lookup (Str.ofString "many") = some (.int n t) →
      Led base h (boxL bx si) h.objs.size hx (Vars lsx) (boxL bx si ++ []) →
      wpB (model prog w) (A.deeper (envK w.params 229 h.objs.size [])) (execs (body229.drop 1) (envK w.params 229 h.objs.size [])) (fun f s' => Q (match f with | .ret v => v | _ => .none) s') NoE ⟨hx, g, d, tk, os⟩ := by
    intro f u hx tk lsx hf hm D
    refine b_execs_cons (b_Return_some ?_)
    refine b_BinOp ?_
    refine b_local D hf ?_
    refine b_local D hm ?_
    refine of_any (mod_int (by omega) ?_)
    obtain ⟨h1, h2⟩ := fmod_in (n := f) hn
    exact k _ _ _ _ h1 h2 D.own D.step
  refine b_execs_cons ?_
  refine b_If ?_
  refine b_isTrue_Compare ?_
  refine b_callBlt S D PySem.boot_len ?_
  refine b_args ?_
  refine b_Item ?_
  refine b_local D rfl ?_
  refine b_int ?_
  refine l_itemL (i := 0) D rfl any_any (by decide) rfl (by simp) ?_
  refine b_args_nil ?_
  refine l_lenL (i := 1) D rfl lst_any (by omega) fun u tk₂ => ?_
  refine b_int ?_
  refine of_any (gt_int ?_)
  refine b_truthy_bool ?_
  cases ns with
  | cons n₁ r =>
    obtain ⟨t₁, rv, rfl, hv'⟩ := IntsAre.cons_inv hv
    rw [if_pos (by simp)]
    refine b_execs_cons ?_
    refine b_Assign ?_ (by kernel_rfl) (by kernel_rfl)
    refine b_CallO ?_
    refine b_Item ?_
    refine b_local D rfl ?_
    refine b_int ?_
    refine l_itemL (i := 0) D rfl any_any (by decide) rfl (by simp) ?_
    refine l_methL (i := 1) D rfl PySem.F.slot_list_pop PySem.F.type_list_pop ?_
    dsimp only
    refine b_cwB ?_
    refine b_args ?_
    refine b_int ?_
    refine b_args_nil ?_
    refine l_pop0 (i := 1) D rfl (by have := hv'.length; simp at hns; omega) fun h₂ tk₃ D => ?_
    refine b_assign_Name ?_
    refine b_store D fun h₃ tk₄ D => ?_
    refine b_execs_nil ?_
    exact fin _ _ _ _ _ rfl rfl (Led.shutBox (ns := r) (vs := rv) D (by simp at hns; omega) hv')
  | nil =>
    obtain rfl := IntsAre.nil_inv hv
    rw [if_neg (by simp)]
    -- box[1] = box[1] + 1
    refine b_execs_cons ?_
    refine b_Assign ?_ (by kernel_rfl) (by kernel_rfl)
    refine b_BinOp ?_
    refine b_Item ?_
    refine b_local D rfl ?_
    refine b_int ?_
    refine l_itemL (i := 0) D rfl any_any (by decide) rfl (by simp) ?_
    refine b_int ?_
    refine of_any (add_int ?_)
    refine b_assign_Subscript ?_
    refine b_local D rfl ?_
    refine b_int ?_
    refine l_setItemL (i := 0) D rfl any_any (by decide) (by simp) (by simp) fun h₂ tk₃ D => ?_
    -- figure = 5 * box[1] + box[1] // 3
    refine b_execs_cons ?_
    refine b_Assign ?_ (by kernel_rfl) (by kernel_rfl)
    refine b_BinOp ?_
    refine b_BinOp ?_
    refine b_int ?_
    refine b_Item ?_
    refine b_local D rfl ?_
    refine b_int ?_
    refine l_itemL (i := 0) D rfl any_any (by decide) rfl (by simp) ?_
    refine of_any (mul_int ?_ (.of_left (by decide)))
    refine b_BinOp ?_
    refine b_Item ?_
    refine b_local D rfl ?_
    refine b_int ?_
    refine l_itemL (i := 0) D rfl any_any (by decide) rfl (by simp) ?_
    refine b_int ?_
    refine of_any (floordiv_int (by decide) ?_ (Or.inl (PyProof.noPylong_small (by decide))))
    refine of_any (add_int ?_)
    refine b_assign_Name ?_
    refine b_store D fun h₃ tk₄ D => ?_
    refine b_execs_nil ?_
    exact fin _ _ _ _ _ rfl rfl (Led.shutBox (ns := []) (vs := []) D (by simp) .nil)

theorem lawmore_spec {bx si : Addr} {n : Int} {t : Tok} {Q : Value → Shared → Prop} (S : Stat w base) (R : Room A 1) (hn : 0 < n)
    (O : Own base h (boxL bx si))
    (k : ∀ r h' tk' t, 0 ≤ r → r < n → Own base h' (boxL bx si) → Step h h' (boxL bx si) (boxL bx si) → Q (.int r t) ⟨h', g, d, tk', os⟩) :
    wpB (model prog w) A (call (.ref 236) [.ref bx, .int n t]) Q NoE ⟨h, g, d, tk, os⟩ := by
  refine b_callK (a := 236) S O (by kernel_rfl) R.lim (binds := [(Str.ofString "box", .ref bx), (Str.ofString "many", .int n t)]) (by kernel_rfl) (by kernel_rfl) fun h₁ tk₁ D => ?_
  rw [body_236]
  obtain ⟨kt, ns, vs, hns, hv, D⟩ := Led.openBox (rest := []) D
  have hvl := hv.length
  refine b_execs_cons (b_Return_some ?_)
  refine b_IfExp ?_
  refine b_isTrue_Compare ?_
  refine b_callBlt S D PySem.boot_len ?_
  refine b_args ?_
  refine b_Item ?_
  refine b_local D rfl ?_
  refine b_int ?_
  refine l_itemL (i := 0) D rfl any_any (by decide) rfl (by simp) ?_
  refine b_args_nil ?_
  refine l_lenL (i := 1) D rfl lst_any (by omega) fun u tk₂ => ?_
  refine b_int ?_
  refine of_any (gt_int ?_)
  refine b_truthy_bool ?_
  cases ns with
  | cons n₁ r =>
    obtain ⟨t₁, rv, rfl, hv'⟩ := IntsAre.cons_inv hv
    rw [if_pos (by simp)]
    refine b_BinOp ?_
    refine b_CallO ?_
    refine b_Item ?_
    refine b_local D rfl ?_
    refine b_int ?_
    refine l_itemL (i := 0) D rfl any_any (by decide) rfl (by simp) ?_
    refine l_methL (i := 1) D rfl PySem.F.slot_list_pop PySem.F.type_list_pop ?_
    dsimp only
    refine b_cwB ?_
    refine b_args ?_
    refine b_int ?_
    refine b_args_nil ?_
    refine l_pop0 (i := 1) D rfl (by have := hv'.length; simp at hns; omega) fun h₂ tk₃ D => ?_
    refine b_local D rfl ?_
    refine of_any (mod_int (by omega) ?_)
    obtain ⟨h1, h2⟩ := fmod_in (n := n₁) hn
    have D := Led.shutBox (ns := r) (vs := rv) (rest := []) D (by simp at hns; omega) hv'
    exact k _ _ _ _ h1 h2 D.own D.step
  | nil =>
    obtain rfl := IntsAre.nil_inv hv
    rw [if_neg (by simp)]
    refine b_int ?_
    have D := Led.shutBox (ns := []) (vs := []) (rest := []) D (by simp) .nil
    exact k _ _ _ _ (Int.le_refl _) hn D.own D.step
end
end Mine
end

noncomputable section
set_option maxHeartbeats 4000000

namespace Mine
open PySem PySem.Calls PyProof.Rows PySem.W

noncomputable def ofB (bs : List UInt8) : List Int := bs.map fun c => (c.toNat : Int)
theorem ofB_append (a b : List UInt8) : ofB (a ++ b) = ofB a ++ ofB b := List.map_append
theorem ofB_take (a : List UInt8) (n : Nat) : ofB (a.take n) = (ofB a).take n := List.map_take
theorem ofB_drop (a : List UInt8) (n : Nat) : ofB (a.drop n) = (ofB a).drop n := List.map_drop
theorem ofB_len (a : List UInt8) : (ofB a).length = a.length := List.length_map _
theorem ofB_inj {a b : List UInt8} (h : ofB a = ofB b) : a = b :=
  (List.map_inj_right fun (x y : UInt8) (e : ((x.toNat : Int)) = (y.toNat : Int)) => UInt8.toNat_inj.mp (by omega)).mp h
abbrev BytesAre (vs : List Value) (bs : List UInt8) : Prop := IntsAre vs (ofB bs)
theorem bytesAre_at {vs : List Value} {bs : List UInt8} (h : BytesAre vs bs) {i : Nat} {v : Value} (hv : vs[i]? = some v) : ∃ c t, bs[i]? = some c ∧ v = .int (c.toNat : Int) t := by
  obtain ⟨n, t, rfl, hn⟩ := h.at i v hv
  unfold ofB at hn
  rw [List.getElem?_map] at hn
  cases hc : bs[i]? with
  | none => rw [hc] at hn; cases hn
  | some c => rw [hc] at hn; cases hn; exact ⟨c, t, rfl, rfl⟩

/-- what may stand ahead of a line that is typed, and ahead of each of its letters -/
noncomputable def PreP (p : List UInt8) : Prop := p = [120] ∨ p = [120, 121] ∨ p = [120, 121, 120] ∨ p = [8] ∨ p = [127, 0]
noncomputable def JunkP (j : List UInt8) : Prop := j = [] ∨ j = [122, 8] ∨ j = [122, 127] ∨ j = [0, 119, 118, 127, 0, 8]
inductive Typed : List UInt8 → List UInt8 → Prop
  | start0 : Typed [] []
  | start (p : List UInt8) (h : PreP p) : Typed [] (p ++ [21])
  | step {l m : List UInt8} (j : List UInt8) (c : UInt8) (h : Typed l m) (hj : JunkP j) : Typed (l ++ [c]) (m ++ j ++ [c])
theorem Typed.len {l m : List UInt8} (h : Typed l m) : m.length ≤ 4 + 7 * l.length := by
  induction h with
  | start0 => simp
  | start p h => rcases h with rfl | rfl | rfl | rfl | rfl <;> simp
  | step j c h hj ih => rcases hj with rfl | rfl | rfl | rfl <;> simp <;> omega

section
variable {prog : Program} {w : World} {A : Around} {E : Value → Shared → Prop} {base h₀ h : Heap} {l₀ l : List Item} {L : Addr} {g : Array GenState} {d : Drawn} {tk : Nat} {os : OsState} {ls : List (Str × Value)} {a : Addr} {cl : List (Str × Addr)} {s : Shared} {env : Env}
  {m : Str → Option Value} {i j : Nat} {x y : Addr} {P P' : Obj → Prop} {bx si : Addr} {rest : List Item}

theorem Own.left {fp rest : List Item} (O : Own base h (fp ++ rest)) : Own base h fp :=
  ⟨O.stay, O.lowH, fun p hp => O.get p (List.mem_append_left _ hp), fun p hp => O.new p (List.mem_append_left _ hp), by
    have := O.nd
    rw [List.map_append, List.nodup_append] at this
    exact this.1⟩
theorem call_take {n : Int} {t : Tok} {Q : Value → Shared → Prop} (S : Stat w base) (R : Room A 1) (hn : 0 < n) (D : Led base h₀ l₀ L h m (boxL bx si ++ rest))
    (k : ∀ r h' tk' t, 0 ≤ r → r < n → Led base h₀ l₀ L h' m (boxL bx si ++ rest) → Q (.int r t) ⟨h', g, d, tk', os⟩) :
    wpB (model prog w) A (call (.ref 229) [.ref bx, .int n t]) Q NoE ⟨h, g, d, tk, os⟩ :=
  lawtake_spec S R hn D.own.left fun r h' tk' t h1 h2 O' S' => k r h' tk' t h1 h2 (D.call O' S')
theorem call_more {n : Int} {t : Tok} {Q : Value → Shared → Prop} (S : Stat w base) (R : Room A 1) (hn : 0 < n) (D : Led base h₀ l₀ L h m (boxL bx si ++ rest))
    (k : ∀ r h' tk' t, 0 ≤ r → r < n → Led base h₀ l₀ L h' m (boxL bx si ++ rest) → Q (.int r t) ⟨h', g, d, tk', os⟩) :
    wpB (model prog w) A (call (.ref 236) [.ref bx, .int n t]) Q NoE ⟨h, g, d, tk, os⟩ :=
  lawmore_spec S R hn D.own.left fun r h' tk' t h1 h2 O' S' => k r h' tk' t h1 h2 (D.call O' S')
/-- a draw, box and all said by local names -/
theorem e_take {n : Int} {xpos npos bpos pos : Pos} {kk : Nat} {Q : Value → Shared → Prop} (S : Stat w base) (R : Room A 1) (hn : 0 < n) (D : Led base h₀ l₀ L h (Vars ls) (boxL bx si ++ rest)) (hb : ls.lookup (Str.ofString "box") = some (.ref bx))
    (k : ∀ r h' tk' t, 0 ≤ r → r < n → Led base h₀ l₀ L h' (Vars ls) (boxL bx si ++ rest) → Q (.int r t) ⟨h', g, d, tk', os⟩)
    (hk : (fdK w.params a).scope.kind = .function := by kernel_rfl) (hl : (fdK w.params a).scope.names.lookup (Str.ofString "_law_take") = some .globalImplicit := by kernel_rfl) (hl' : (fdK w.params a).scope.names.lookup (Str.ofString "box") = some .local := by kernel_rfl) :
    wpB (model prog w) A (eval (.Call (.Name (Str.ofString "_law_take") xpos) [.Name (Str.ofString "box") bpos, .Constant (.int n) kk npos] [] pos) (envK w.params a L cl)) Q NoE ⟨h, g, d, tk, os⟩ := by
  refine b_callDef S D (glob_take _) (keep_229 _) ?_ rfl hk hl
  refine b_args (b_local D hb ?_ hk hl')
  refine b_args (b_int ?_)
  refine b_args_nil ?_
  exact ⟨S.here D.stay, call_take S R hn D k⟩
theorem e_more {n : Int} {xpos npos bpos pos : Pos} {kk : Nat} {Q : Value → Shared → Prop} (S : Stat w base) (R : Room A 1) (hn : 0 < n) (D : Led base h₀ l₀ L h (Vars ls) (boxL bx si ++ rest)) (hb : ls.lookup (Str.ofString "box") = some (.ref bx))
    (k : ∀ r h' tk' t, 0 ≤ r → r < n → Led base h₀ l₀ L h' (Vars ls) (boxL bx si ++ rest) → Q (.int r t) ⟨h', g, d, tk', os⟩)
    (hk : (fdK w.params a).scope.kind = .function := by kernel_rfl) (hl : (fdK w.params a).scope.names.lookup (Str.ofString "_law_more") = some .globalImplicit := by kernel_rfl) (hl' : (fdK w.params a).scope.names.lookup (Str.ofString "box") = some .local := by kernel_rfl) :
    wpB (model prog w) A (eval (.Call (.Name (Str.ofString "_law_more") xpos) [.Name (Str.ofString "box") bpos, .Constant (.int n) kk npos] [] pos) (envK w.params a L cl)) Q NoE ⟨h, g, d, tk, os⟩ := by
  refine b_callDef S D (glob_more _) (keep_236 _) ?_ rfl hk hl
  refine b_args (b_local D hb ?_ hk hl')
  refine b_args (b_int ?_)
  refine b_args_nil ?_
  exact ⟨S.here D.stay, call_more S R hn D k⟩

theorem bytes1 (c : UInt8) (t : Tok) : BytesAre [.int (c.toNat : Int) t] [c] := .cons _ _ .nil

/-- the locals of the def and its list `made` -/
structure TyL (bx li m : Addr) (ls : List (Str × Value)) : Prop where
  box : ls.lookup (Str.ofString "box") = some (.ref bx)
  line : ls.lookup (Str.ofString "line") = some (.ref li)
  made : ls.lookup (Str.ofString "made") = some (.ref m)

theorem typed_list {li : Addr} {line : List UInt8} {Q : Value → Shared → Prop} (S : Stat w base) (R : Room A 2) (hz : line.length ≤ 20)
    (O : Own base h (boxL bx si ++ [(li, ilP (ofB line))]))
    (k : ∀ n made h' tk', Typed line made → Own base h' (boxL bx si ++ [(li, ilP (ofB line)), (n, ilP (ofB made))]) →
      Step h h' (boxL bx si ++ [(li, ilP (ofB line))]) (boxL bx si ++ [(li, ilP (ofB line)), (n, ilP (ofB made))]) → Q (.ref n) ⟨h', g, d, tk', os⟩) :
    wpB (model prog w) A (call (.ref 243) [.ref bx, .ref li]) Q NoE ⟨h, g, d, tk, os⟩ := by
  refine b_callK (a := 243) S O (by kernel_rfl) R.lim (binds := [(Str.ofString "box", .ref bx), (Str.ofString "line", .ref li)]) (by kernel_rfl) (by kernel_rfl) fun h₁ tk₁ D => ?_
  rw [body_243]
  obtain ⟨lv, hlv, D⟩ := D.ints (i := 2) rfl
  have hlvl : lv.length = line.length := by rw [hlv.length, ofB_len]
  have D : Led base h (boxL bx si ++ [(li, ilP (ofB line))]) h.objs.size h₁ _ (boxL bx si ++ [(li, lstP lv)]) := D
  -- behind the beginning
  have loop : ∀ (mm : Addr) (mv : List Value) (made : List UInt8) (hx : Heap) (tk : Nat) (lsx : List (Str × Value)), Led base h (boxL bx si ++ [(li, ilP (ofB line))]) h.objs.size hx (Vars lsx) (boxL bx si ++ [(li, lstP lv), (mm, lstP mv)]) →
      Typed [] made → BytesAre mv made → TyL bx li mm lsx →
      wpB (model prog w) (A.deeper (envK w.params 243 h.objs.size [])) (execs (body243.drop 2) (envK w.params 243 h.objs.size [])) (fun f s' => Q (match f with | .ret v => v | _ => .none) s') NoE ⟨hx, g, d, tk, os⟩ := by
    intro mm mv made hx tk lsx D hT hmv V
    refine b_execs_cons ?_
    refine b_For ?_
    refine b_local D V.line ?_
    refine l_iterList D (vs := lv) (by simp [boxL]) fun it h₂ tk₂ D => ?_
    refine b_ForW (nexts_list (A := A.deeper _) R.hand it li lv) (fun i ls l => ∃ mm mv made, l = boxL bx si ++ [(li, lstP lv), (mm, lstP mv)] ∧ Typed (line.take i) made ∧ BytesAre mv made ∧ TyL bx li mm ls) D ⟨mm, mv, made, rfl, hT, hmv, V⟩ (fun i ls l q => by obtain ⟨mm, mv, made, rfl, _⟩ := q; simp [boxL]) ?_ ?_
    · rintro i v hx tk lsx l hi hv ⟨mm, mv, made, rfl, hT, hmv, V⟩ D
      obtain ⟨c, t, hc, rfl⟩ := bytesAre_at hlv hv
      have hlen := hT.len
      have hlt : (line.take i).length ≤ 20 := Nat.le_trans (List.length_take_le _ _) (by omega)
      have hmvl : mv.length = made.length := by rw [hmv.length, ofB_len]
      have htk : line.take (i + 1) = line.take i ++ [c] := by rw [List.take_add_one, hc]; rfl
      have D := D.pick [1, 2, 0, 3, 4]
      -- way = _law_more(box, 4)
      refine b_execs_cons ?_
      refine b_Assign ?_ (by kernel_rfl) (by kernel_rfl)
      refine e_more (a := 243) (bx := bx) (si := si) (rest := [(it, litP li (i + 1)), (li, lstP lv), (mm, lstP mv)]) S R.deeper (by decide) D V.box fun r h₃ tk₃ t₃ hr0 hr4 D => ?_
      refine b_assign_Name ?_
      refine b_store D fun h₄ tk₄ D => ?_
      -- behind the junk
      have behind : ∀ (mm : Addr) (mv : List Value) (j : List UInt8) (hx : Heap) (tk : Nat) (lsy : List (Str × Value)), Led base h (boxL bx si ++ [(li, ilP (ofB line))]) h.objs.size hx (Vars lsy) (boxL bx si ++ [(it, litP li (i + 1)), (li, lstP lv), (mm, lstP mv)]) →
          JunkP j → BytesAre mv (made ++ j) → TyL bx li mm lsy → lsy.lookup (Str.ofString "octet") = some (.int (c.toNat : Int) t) →
          wpB (model prog w) (A.deeper (envK w.params 243 h.objs.size [])) (execs ((match nth body243 2 with | .For _ _ b _ _ => b | _ => []).drop 3) (envK w.params 243 h.objs.size []))
            (fun f s' => match f with
              | .next | .cont => ∃ h' tk ls' l', s' = ⟨h', g, d, tk, os⟩ ∧ (∃ mm mv made, l' = boxL bx si ++ [(li, lstP lv), (mm, lstP mv)] ∧ Typed (line.take (i + 1)) made ∧ BytesAre mv made ∧ TyL bx li mm ls') ∧
                  Led base h (boxL bx si ++ [(li, ilP (ofB line))]) h.objs.size h' (Vars ls') ((it, litP li (i + 1)) :: l')
              | .brk => wpB (model prog w) (A.deeper (envK w.params 243 h.objs.size [])) (execs (body243.drop 3) (envK w.params 243 h.objs.size [])) (fun f s' => Q (match f with | .ret v => v | _ => .none) s') NoE s'
              | .ret v => Q v s') NoE ⟨hx, g, d, tk, os⟩ := by
        intro mm mv j hx tk lsy D hj hmv V ho
        have hjl : j.length ≤ 6 := by rcases hj with rfl | rfl | rfl | rfl <;> simp
        have hmvl : mv.length = made.length + j.length := by rw [hmv.length, ofB_len, List.length_append]
        refine b_execs_cons ?_
        refine b_Expr ?_ (by kernel_rfl) (by kernel_rfl)
        refine b_CallO ?_
        refine b_local D V.made ?_
        refine l_methL (i := 4) D rfl PySem.F.slot_list_append PySem.F.type_list_append ?_
        dsimp only
        refine b_cwB ?_
        refine b_args ?_
        refine b_local D ho ?_
        refine b_args_nil ?_
        refine l_appendL (i := 4) D rfl (by omega) fun h₅ tk₅ D => ?_
        refine ⟨(by nofun), b_execs_nil ?_⟩
        refine ⟨h₅, tk₅, lsy, _, rfl, ⟨mm, mv ++ [.int (c.toNat : Int) t], made ++ j ++ [c], rfl, ?_, ?_, V⟩, ?_⟩
        · rw [htk]; exact .step j c hT hj
        · show IntsAre _ _; rw [ofB_append]; exact hmv.append (bytes1 c t)
        · exact D.pick [2, 0, 1, 3, 4]
      -- if way == 1
      refine b_execs_cons ?_
      refine b_If ?_
      refine b_isTrue_Compare ?_
      refine b_local D rfl ?_
      refine b_int ?_
      refine of_any (eq_int ?_)
      refine b_truthy_bool ?_
      by_cases hw1 : r = 1
      · subst hw1
        rw [if_pos (by rfl)]
        refine b_execs_cons ?_
        refine b_Assign ?_ (by kernel_rfl) (by kernel_rfl)
        refine b_BinOp ?_
        refine b_local D V.made ?_
        refine b_List ?_
        refine b_args ?_
        refine b_int ?_
        refine b_args ?_
        refine b_Item ?_
        refine b_List ?_
        refine b_args ?_
        refine b_int ?_
        refine b_args ?_
        refine b_int ?_
        refine b_args_nil ?_
        refine l_newList D fun n₁ h₅ tk₅ D => ?_
        have D := D.pick [1, 2, 0, 3, 4, 5]
        refine e_take (a := 243) (bx := bx) (si := si) (rest := [(n₁, lstP [.int 8 _, .int 127 _]), (it, litP li (i + 1)), (li, lstP lv), (mm, lstP mv)]) S R.deeper (by decide) D V.box fun r h₃ tk₃ t₃ hr0 hr2 D => ?_
        obtain rfl | rfl : r = 0 ∨ r = 1 := by omega
        all_goals
          refine l_itemL (i := 2) D rfl lst_any (by decide) rfl (by simp) ?_
          refine b_args_nil ?_
          refine l_newList D fun n₂ h₅ tk₅ D => ?_
          refine l_addL (i := 6) (j := 0) D rfl rfl (by simp; omega) fun n₃ h₆ tk₆ D => ?_
          refine b_assign_Name ?_
          refine b_store D fun h₇ tk₇ D => ?_
          refine b_execs_nil ?_
          refine b_execs_cons ?_
          refine b_If ?_
          refine b_isTrue_Compare ?_
          refine b_local D rfl ?_
          refine b_int ?_
          refine of_any (eq_int ?_)
          refine b_truthy_bool ?_
          rw [if_neg (by decide)]
          refine b_execs_nil ?_
          have D := D.pick [2, 3, 5, 6, 0]
        · refine behind n₃ _ [122, 8] _ _ _ D (by simp [JunkP]) ?_ ⟨V.box, V.line, rfl⟩ rfl
          show IntsAre _ _; rw [ofB_append]; exact hmv.append (.cons _ _ (.cons _ _ .nil))
        · refine behind n₃ _ [122, 127] _ _ _ D (by simp [JunkP]) ?_ ⟨V.box, V.line, rfl⟩ rfl
          show IntsAre _ _; rw [ofB_append]; exact hmv.append (.cons _ _ (.cons _ _ .nil))
      · rw [if_neg (by simpa using hw1)]
        refine b_execs_nil ?_
        refine b_execs_cons ?_
        refine b_If ?_
        refine b_isTrue_Compare ?_
        refine b_local D rfl ?_
        refine b_int ?_
        refine of_any (eq_int ?_)
        refine b_truthy_bool ?_
        by_cases hw2 : r = 2
        · rw [if_pos (by simpa using hw2)]
          refine b_execs_cons ?_
          refine b_Assign ?_ (by kernel_rfl) (by kernel_rfl)
          refine b_BinOp ?_
          refine b_local D V.made ?_
          refine b_List ?_
          refine b_args ?_
          refine b_int ?_
          refine b_args ?_
          refine b_int ?_
          refine b_args ?_
          refine b_int ?_
          refine b_args ?_
          refine b_int ?_
          refine b_args ?_
          refine b_int ?_
          refine b_args ?_
          refine b_int ?_
          refine b_args_nil ?_
          refine l_newList D fun n₂ h₅ tk₅ D => ?_
          refine l_addL (i := 5) (j := 0) D rfl rfl (by simp; omega) fun n₃ h₆ tk₆ D => ?_
          refine b_assign_Name ?_
          refine b_store D fun h₇ tk₇ D => ?_
          refine b_execs_nil ?_
          have D := D.pick [2, 3, 4, 5, 0]
          refine behind n₃ _ [0, 119, 118, 127, 0, 8] _ _ _ D (by simp [JunkP]) ?_ ⟨V.box, V.line, rfl⟩ rfl
          show IntsAre _ _; rw [ofB_append]; exact hmv.append (.cons _ _ (.cons _ _ (.cons _ _ (.cons _ _ (.cons _ _ (.cons _ _ .nil))))))
        · rw [if_neg (by simpa using hw2)]
          refine b_execs_nil ?_
          refine behind mm mv [] _ _ _ D (by simp [JunkP]) (by rw [List.append_nil]; exact hmv) ⟨V.box, V.line, V.made⟩ rfl
    · rintro hx tk lsx l ⟨mm, mv, made, rfl, hT, hmv, V⟩ D
      refine b_execs_cons (b_Return_some ?_)
      refine b_local D V.made ?_
      have D := D.say (i := 2) (P := lstP lv) (P' := ilP (ofB line)) rfl fun o _ h => ⟨lv, hlv, h⟩
      have D := D.say (i := 3) (P := lstP mv) (P' := ilP (ofB made)) rfl fun o _ h => ⟨mv, hmv, h⟩
      rw [hlvl, List.take_length] at hT
      exact k mm made _ _ hT D.own D.step
  -- made = []
  refine b_execs_cons ?_
  refine b_Assign ?_ (by kernel_rfl) (by kernel_rfl)
  refine b_List ?_
  refine b_args_nil ?_
  refine l_newList D fun m₀ h₂ tk₂ D => ?_
  refine b_assign_Name ?_
  refine b_store D fun h₃ tk₃ D => ?_
  have D := D.pick [1, 2, 3, 0]
  -- the beginning
  refine b_execs_cons ?_
  refine b_If ?_
  refine b_isTrue_Compare ?_
  refine e_more (a := 243) (bx := bx) (si := si) (rest := [(li, lstP lv), (m₀, lstP [])]) S R.deeper (by decide) D rfl fun r h₄ tk₄ t₄ hr0 hr4 D => ?_
  refine b_int ?_
  refine of_any (eq_int ?_)
  refine b_truthy_bool ?_
  by_cases hr1 : r = 1
  · rw [if_pos (by simpa using hr1)]
    refine b_execs_cons ?_
    refine b_Assign ?_ (by kernel_rfl) (by kernel_rfl)
    refine b_BinOp ?_
    refine b_BinOp ?_
    refine b_local D rfl ?_
    refine b_Item ?_
    refine b_List ?_
    refine b_args ?_
    refine b_SliceOf ?_
    refine b_List ?_
    refine b_args ?_
    refine b_int ?_
    refine b_args ?_
    refine b_int ?_
    refine b_args ?_
    refine b_int ?_
    refine b_args_nil ?_
    refine l_newList D fun n₁ h₅ tk₅ D => ?_
    refine b_part_none ?_
    refine b_part_some ?_
    refine b_BinOp ?_
    refine b_int ?_
    have D := D.pick [1, 2, 0, 3, 4]
    refine e_take (a := 243) (bx := bx) (si := si) (rest := [(n₁, lstP [.int 120 _, .int 121 _, .int 120 _]), (li, lstP lv), (m₀, lstP [])]) S R.deeper (by decide) D rfl fun z h₆ tk₆ t₆ hz0 hz3 D => ?_
    refine of_any (add_int ?_)
    refine l_sliceL (i := 2) D rfl lst_any .none (.int _ _) (by simp) fun n₂ h₇ tk₇ D => ?_
    refine b_args ?_
    refine b_List ?_
    refine b_args ?_
    refine b_int ?_
    refine b_args_nil ?_
    refine l_newList D fun n₃ h₈ tk₈ D => ?_
    refine b_args ?_
    refine b_List ?_
    refine b_args ?_
    refine b_int ?_
    refine b_args ?_
    refine b_int ?_
    refine b_args_nil ?_
    refine l_newList D fun n₄ h₉ tk₉ D => ?_
    refine b_args_nil ?_
    refine l_newList D fun n₅ h₁₀ tk₁₀ D => ?_
    have D := D.pick [4, 5, 0, 1, 2, 3, 7, 8]
    refine e_take (a := 243) (bx := bx) (si := si) (rest := [(n₅, lstP [.ref n₂, .ref n₃, .ref n₄]), (n₄, lstP [.int 127 _, .int 0 _]), (n₃, lstP [.int 8 _]), (n₂, lstP _), (li, lstP lv), (m₀, lstP [])]) S R.deeper (by decide) D rfl fun y h₁₁ tk₁₁ t₁₁ hy0 hy3 D => ?_
    obtain rfl | rfl | rfl : y = 0 ∨ y = 1 ∨ y = 2 := by omega
    · refine l_itemL (i := 2) D rfl lst_any (by decide) rfl (by simp) ?_
      have D := D.pick [0, 1, 6, 7, 5]
      obtain ⟨p, hp, hq⟩ : ∃ p, PreP p ∧ BytesAre (slicePick [Value.int 120 (tk₄ + 1), .int 121 (tk₄ + 1 + 1), .int 120 (tk₄ + 1 + 1 + 1)].toArray none (some (1 + z)) none).toList p := by
        obtain rfl | rfl | rfl : z = 0 ∨ z = 1 ∨ z = 2 := by omega
        · exact ⟨[120], .inl rfl, by rw [show (1 + 0 : Int) = ((1 : Nat) : Int) from rfl, slicePick_upto']; exact .cons _ _ .nil⟩
        · exact ⟨[120, 121], .inr (.inl rfl), by rw [show (1 + 1 : Int) = ((2 : Nat) : Int) from rfl, slicePick_upto']; exact .cons _ _ (.cons _ _ .nil)⟩
        · exact ⟨[120, 121, 120], .inr (.inr (.inl rfl)), by rw [show (1 + 2 : Int) = ((3 : Nat) : Int) from rfl, slicePick_upto']; exact .cons _ _ (.cons _ _ (.cons _ _ .nil))⟩
      have hpl : p.length ≤ 3 := by rcases hp with rfl | rfl | rfl | rfl | rfl <;> decide
      have hql := hq.length
      rw [ofB_len] at hql
      refine l_addL (i := 3) (j := 4) D rfl rfl (by rw [hql]; simp; omega) fun n₆ h₁₂ tk₁₂ D => ?_
      refine b_List ?_
      refine b_args ?_
      refine b_int ?_
      refine b_args_nil ?_
      refine l_newList D fun n₇ h₁₃ tk₁₃ D => ?_
      refine l_addL (i := 1) (j := 0) D rfl rfl (by first | (simp; done) | (simp only [List.length_append, List.length_nil, hql, List.length_cons]; omega)) fun n₈ h₁₄ tk₁₄ D => ?_
      refine b_assign_Name ?_
      refine b_store D fun h₁₅ tk₁₅ D => ?_
      refine b_execs_nil ?_
      have D := D.pick [3, 4, 5, 0]
      refine loop n₈ _ (p ++ [21]) _ _ _ D (.start p hp) ?_ ⟨rfl, rfl, rfl⟩
      show IntsAre _ _; rw [ofB_append]; exact hq.append (.cons _ _ .nil)
    · refine l_itemL (i := 2) D rfl lst_any (by decide) rfl (by simp) ?_
      have D := D.pick [0, 1, 6, 7, 4]
      obtain ⟨p, hp, hq⟩ : ∃ p, PreP p ∧ BytesAre [Value.int 8 _] p := ⟨[8], .inr (.inr (.inr (.inl rfl))), .cons _ _ .nil⟩
      have hpl : p.length ≤ 3 := by rcases hp with rfl | rfl | rfl | rfl | rfl <;> decide
      have hql := hq.length
      rw [ofB_len] at hql
      refine l_addL (i := 3) (j := 4) D rfl rfl (by rw [hql]; simp; omega) fun n₆ h₁₂ tk₁₂ D => ?_
      refine b_List ?_
      refine b_args ?_
      refine b_int ?_
      refine b_args_nil ?_
      refine l_newList D fun n₇ h₁₃ tk₁₃ D => ?_
      refine l_addL (i := 1) (j := 0) D rfl rfl (by first | (simp; done) | (simp only [List.length_append, List.length_nil, hql, List.length_cons]; omega)) fun n₈ h₁₄ tk₁₄ D => ?_
      refine b_assign_Name ?_
      refine b_store D fun h₁₅ tk₁₅ D => ?_
      refine b_execs_nil ?_
      have D := D.pick [3, 4, 5, 0]
      refine loop n₈ _ (p ++ [21]) _ _ _ D (.start p hp) ?_ ⟨rfl, rfl, rfl⟩
      show IntsAre _ _; rw [ofB_append]; exact hq.append (.cons _ _ .nil)
    · refine l_itemL (i := 2) D rfl lst_any (by decide) rfl (by simp) ?_
      have D := D.pick [0, 1, 6, 7, 3]
      obtain ⟨p, hp, hq⟩ : ∃ p, PreP p ∧ BytesAre [Value.int 127 _, .int 0 _] p := ⟨[127, 0], .inr (.inr (.inr (.inr rfl))), .cons _ _ (.cons _ _ .nil)⟩
      have hpl : p.length ≤ 3 := by rcases hp with rfl | rfl | rfl | rfl | rfl <;> decide
      have hql := hq.length
      rw [ofB_len] at hql
      refine l_addL (i := 3) (j := 4) D rfl rfl (by rw [hql]; simp; omega) fun n₆ h₁₂ tk₁₂ D => ?_
      refine b_List ?_
      refine b_args ?_
      refine b_int ?_
      refine b_args_nil ?_
      refine l_newList D fun n₇ h₁₃ tk₁₃ D => ?_
      refine l_addL (i := 1) (j := 0) D rfl rfl (by first | (simp; done) | (simp only [List.length_append, List.length_nil, hql, List.length_cons]; omega)) fun n₈ h₁₄ tk₁₄ D => ?_
      refine b_assign_Name ?_
      refine b_store D fun h₁₅ tk₁₅ D => ?_
      refine b_execs_nil ?_
      have D := D.pick [3, 4, 5, 0]
      refine loop n₈ _ (p ++ [21]) _ _ _ D (.start p hp) ?_ ⟨rfl, rfl, rfl⟩
      show IntsAre _ _; rw [ofB_append]; exact hq.append (.cons _ _ .nil)
  · rw [if_neg (by simpa using hr1)]
    refine b_execs_nil ?_
    exact loop m₀ [] [] _ _ _ D .start0 .nil ⟨rfl, rfl, rfl⟩
end
end Mine
end

noncomputable section
namespace Mine
open PySem PySem.Calls PyProof.Rows PySem.W

theorem boot_int' : bootBuiltins (Str.ofString "int") = some (.type "int") := by kernel_rfl
theorem boot_range' : bootBuiltins (Str.ofString "range") = some (.type "range") := by kernel_rfl
theorem boot_max' : bootBuiltins (Str.ofString "max") = some (.builtin "max") := by kernel_rfl

/-- values that are bytes -/
inductive BytsAre : List Value → List (List UInt8) → Prop
  | nil : BytsAre [] []
  | cons (b : List UInt8) (t : Tok) {vs bs} : BytsAre vs bs → BytsAre (.bytes b.toArray t :: vs) (b :: bs)
theorem BytsAre.append {vs ws : List Value} {a b : List (List UInt8)} (h : BytsAre vs a) (h' : BytsAre ws b) : BytsAre (vs ++ ws) (a ++ b) := by
  induction h with
  | nil => exact h'
  | cons x t _ ih => exact .cons x t ih
theorem BytsAre.length {vs : List Value} {a : List (List UInt8)} (h : BytsAre vs a) : vs.length = a.length := by
  induction h with
  | nil => rfl
  | cons x t _ ih => simp [ih]

theorem byteArr_ofB (b : List UInt8) : byteArr (ofB b) = b.toArray := by
  unfold byteArr ofB
  rw [List.map_map]
  congr 1
  conv => rhs; rw [← List.map_id b]
  refine List.map_congr_left fun c _ => ?_
  simp
theorem ofB_in (b : List UInt8) : ∀ n ∈ ofB b, 0 ≤ n ∧ n < 256 := by
  intro n hn
  obtain ⟨c, _, rfl⟩ := List.mem_map.mp hn
  have := c.toNat_lt
  omega

section
variable {M : Model} {A : Around} {E : Value → Shared → Prop} {s : Shared} {env : Env}
/-- a, b = (x, y): the stores from the last to the first -/
theorem b_AssignSwap {elts k tpos value pos} (names : List Str) {Q : Flow → Shared → Prop}
    (h : wpB M A (eval value env) (fun v s₁ => wpB M A (unpackItems v names.length none) (fun items s₂ =>
      wpB M A (assignInOrder (names.reverse.map fun n => bindName env n) items.reverse) (fun _ => Q .next) E s₂) E s₁) E s)
    (hs : swapsWithSole [.Tuple elts k tpos] value pos.line env = pure false) (hw : swappedStores [.Tuple elts k tpos] value env = pure (some names)) :
    wpB M A (exec (.Assign [.Tuple elts k tpos] value pos) env) Q E s := by
  rw [PyProof.Rows.exec_Assign]
  refine b_bind (b_standAt ?_)
  rw [hs]
  refine b_bind (b_pure ?_)
  rw [if_neg (by decide)]
  refine b_bind (b_mono h (fun v s₁ h₁ => ?_) fun _ _ x => x)
  rw [hw]
  refine b_bind (b_pure ?_)
  show wpB M A (do rule "assign.swapped-stores"; let items ← unpackItems v names.length none; assignInOrder (names.reverse.map fun n => bindName env n) items.reverse; pure .next) Q E s₁
  exact b_bind (b_rule (b_bind (b_mono h₁ (fun items s₂ h₂ => b_bind (b_mono h₂ (fun _ _ x => b_pure x) fun _ _ x => x)) fun _ _ x => x)))
theorem b_AssignTuple {elts k tpos value pos} {Q : Flow → Shared → Prop}
    (h : wpB M A (eval value env) (fun v s₁ => wpB M A (unpack v (assignEach elts env)) (fun _ => Q .next) E s₁) E s)
    (hs : swapsWithSole [.Tuple elts k tpos] value pos.line env = pure false) (hw : swappedStores [.Tuple elts k tpos] value env = pure none) :
    wpB M A (exec (.Assign [.Tuple elts k tpos] value pos) env) Q E s := by
  rw [PyProof.Rows.exec_Assign]
  refine b_bind (b_standAt ?_)
  rw [hs]
  refine b_bind (b_pure ?_)
  rw [if_neg (by decide)]
  refine b_bind (b_mono h (fun v s₁ h₁ => ?_) fun _ _ x => x)
  rw [hw]
  refine b_bind (b_pure ?_)
  show wpB M A (do assignAll v [assign (.Tuple elts k tpos) env]; pure .next) Q E s₁
  refine b_bind (m := assign (.Tuple elts k tpos) env v) ?_
  rw [PyProof.Rows.assign_Tuple]
  exact b_bind (b_standAt (b_mono h₁ (fun _ _ x => b_pure x) fun _ _ x => x))
theorem b_order_nil {Q : Unit → Shared → Prop} {vs : List Value} (h : Q () s) : wpB M A (assignInOrder [] vs) Q E s := b_pure h
theorem b_order_cons {f : Value → Sem Unit} {fs : List (Value → Sem Unit)} {v : Value} {vs : List Value} {Q : Unit → Shared → Prop} (h : wpB M A (f v) (fun _ s₁ => wpB M A (assignInOrder fs vs) Q E s₁) E s) :
    wpB M A (assignInOrder (f :: fs) (v :: vs)) Q E s := b_bind (b_holding h)
theorem b_And {x y pos} {Q : Value → Shared → Prop} (h : wpB M A (eval x env) (fun v s' => wpB M A (truthy v) (fun b s'' => if b = true then wpB M A (eval y env) Q E s'' else Q v s'') E s') E s) :
    wpB M A (eval (.BoolOp .And [x, y] pos) env) Q E s := by
  have e : eval (.BoolOp .And [x, y] pos) env = (do
    let v ← eval x env
    standAt pos
    let t ← holding [v] (truthy v)
    match BoolOp.And, t with
    | .And, false | .Or, true => pure v
    | _, _ => eval y env) := rfl
  rw [e]
  refine b_bind (b_mono h (fun v s' h' => b_bind (b_standAt (b_bind (b_holding (b_mono h' (fun b s'' h'' => ?_) fun _ _ x => x))))) fun _ _ x => x)
  cases b with
  | false => exact b_pure h''
  | true => exact h''
theorem b_And3 {x y z pos} {Q : Value → Shared → Prop} (h : wpB M A (eval x env) (fun v s' => wpB M A (truthy v) (fun b s'' => if b = true then
      wpB M A (eval y env) (fun v s' => wpB M A (truthy v) (fun b s'' => if b = true then wpB M A (eval z env) Q E s'' else Q v s'') E s') E s'' else Q v s'') E s') E s) :
    wpB M A (eval (.BoolOp .And [x, y, z] pos) env) Q E s := by
  have e : eval (.BoolOp .And [x, y, z] pos) env = (do
    let v ← eval x env
    standAt pos
    let t ← holding [v] (truthy v)
    match BoolOp.And, t with
    | .And, false | .Or, true => pure v
    | _, _ => do
      let v ← eval y env
      standAt pos
      let t ← holding [v] (truthy v)
      match BoolOp.And, t with
      | .And, false | .Or, true => pure v
      | _, _ => eval z env) := rfl
  rw [e]
  refine b_bind (b_mono h (fun v s' h' => b_bind (b_standAt (b_bind (b_holding (b_mono h' (fun b s'' h'' => ?_) fun _ _ x => x))))) fun _ _ x => x)
  cases b with
  | false => exact b_pure h''
  | true =>
    refine b_bind (b_mono h'' (fun v s' h' => b_bind (b_standAt (b_bind (b_holding (b_mono h' (fun b s'' h'' => ?_) fun _ _ x => x))))) fun _ _ x => x)
    cases b with
    | false => exact b_pure h''
    | true => exact h''
end

section
variable {prog : Program} {w : World} {A : Around} {E : Value → Shared → Prop} {base h₀ h : Heap} {l₀ l : List Item} {L : Addr} {g : Array GenState} {d : Drawn} {tk : Nat} {os : OsState} {ls : List (Str × Value)} {a : Addr} {cl : List (Str × Addr)} {s : Shared} {env : Env}
  {m : Str → Option Value} {i j : Nat} {x y : Addr} {P P' : Obj → Prop} {vs : List Value}
theorem Led.extNew (D : Led base h₀ l₀ L h m l) {h' : Heap} (he : Heap.ExtBut h.objs.size h h') : Led base h₀ l₀ L h' m l :=
  D.grow fun b o e => he b o (Nat.ne_of_lt (Heap.lt_size e)) e
theorem l_unpackItems {n : Nat} {Q : List Value → Shared → Prop} (hh : A.handled = none) (D : Led base h₀ l₀ L h m l) (hi : l[i]? = some (x, tupP vs)) (hn : n = vs.length)
    (k : ∀ h' tk', Led base h₀ l₀ L h' m l → Q vs ⟨h', g, d, tk', os⟩) : wpB (model prog w) A (unpackItems (.ref x) n none) Q E ⟨h, g, d, tk, os⟩ := by
  obtain ⟨o, ho, hc, c, hd⟩ := D.at hi
  subst hn
  have := unpackItems_tuple (E := E) (prog := prog) (w := w) (A := A) (s := ⟨h, g, d, tk, os⟩) (items := vs.toArray) (Q := Q) hh ⟨o, ho, hc, c, hd⟩ fun h' he => k h' _ (D.extNew he)
  exact of_any (by simpa using this)
theorem l_unpack {targets : List (Bool × (Value → Sem Unit))} {Q : Unit → Shared → Prop} (hh : A.handled = none) (D : Led base h₀ l₀ L h m l) (hi : l[i]? = some (x, tupP vs)) (hn : targets.length = vs.length) (hs : targets.findIdx? (·.1) = none)
    (k : ∀ h' tk', Led base h₀ l₀ L h' m l → wpB (model prog w) A (assignInOrder (targets.map (·.2)) vs) Q E ⟨h', g, d, tk', os⟩) : wpB (model prog w) A (unpack (.ref x) targets) Q E ⟨h, g, d, tk, os⟩ := by
  unfold unpack
  rw [hs]
  exact b_bind (b_holding (l_unpackItems hh D hi hn k))
end
end Mine
end

noncomputable section
set_option maxHeartbeats 4000000

namespace Mine
open PySem PySem.Calls PyProof.Rows PySem.W

/-- the numbers of the counts -/
noncomputable def ofN (cs : List Nat) : List Int := cs.map fun c : Nat => (c : Int)
theorem ofN_len (cs : List Nat) : (ofN cs).length = cs.length := List.length_map _
noncomputable def cntF (cs : List Nat) (i : Nat) : Nat := cs.getD (i % 3) 1
noncomputable def chunkF (f : Nat → Nat) : Nat → Nat → List UInt8 → List (List UInt8)
  | 0, _, _ => []
  | n + 1, i, left => if left = [] then [] else left.take (f i) :: chunkF f n (i + 1) (left.drop (f i))
theorem chunkF_nil (f : Nat → Nat) : ∀ n i, chunkF f n i [] = []
  | 0, _ => rfl
  | n + 1, i => by unfold chunkF; rw [if_pos rfl]
theorem chunkF_cons (f : Nat → Nat) {n i : Nat} {left : List UInt8} (h : left ≠ []) : chunkF f (n + 1) i left = left.take (f i) :: chunkF f n (i + 1) (left.drop (f i)) := by
  conv => lhs; unfold chunkF
  rw [if_neg h]
noncomputable def leftF (line : List UInt8) (e : UInt8) : List UInt8 := line ++ (if e = 4 then [] else [10])
noncomputable def dueF (cs : List Nat) (line : List UInt8) (e : UInt8) : List (List UInt8) := chunkF (cntF cs) 30 0 (leftF line e) ++ (if e = 4 then [[]] else [])

section
variable {prog : Program} {w : World} {A : Around} {E : Value → Shared → Prop} {base h₀ h : Heap} {l₀ l : List Item} {L : Addr} {g : Array GenState} {d : Drawn} {tk : Nat} {os : OsState} {ls : List (Str × Value)} {a : Addr} {cl : List (Str × Addr)} {s : Shared} {env : Env}
  {m : Str → Option Value} {i j : Nat} {x y : Addr} {P P' : Obj → Prop} {vs : List Value}

theorem nat_at {cv : List Value} {cs : List Nat} (h : IntsAre cv (ofN cs)) {k : Nat} (hk : k < cs.length) : ∃ t, cv[k]? = some (.int (cs.getD k 1 : Nat) t) := by
  have hl : cv.length = cs.length := by rw [h.length, ofN_len]
  obtain ⟨n, t, e, hn⟩ := h.at k cv[k] (by simp)
  refine ⟨t, ?_⟩
  rw [List.getElem?_eq_getElem (by omega), e]
  unfold ofN at hn
  rw [List.getElem?_map, List.getElem?_eq_getElem hk] at hn
  simp only [Option.map_some, Option.some.injEq] at hn
  rw [← hn, List.getD_eq_getElem?_getD, List.getElem?_eq_getElem hk]; rfl

/-- the count's place -/
theorem mod3 (n : Nat) : ((n : Int).fmod (3 : Int)) = ((n % 3 : Nat) : Int) := by
  rw [Int.fmod_eq_emod_of_nonneg _ (by decide)]; omega

theorem u8_ne4 (e : UInt8) : ((e.toNat : Int) != (4 : Int)) = !(e == 4) := by
  have := u8_eq e 4 (by omega)
  show (!((e.toNat : Int) == (4 : Int))) = _
  rw [show ((e.toNat : Int) == (4 : Int)) = (e == 4) from this]


theorem reads_spec {li ci : Addr} {line : List UInt8} {cs : List Nat} {e : UInt8} {te : Tok} {Q : Value → Shared → Prop} (S : Stat w base) (R : Room A 1) (hz : line.length ≤ 20) (hc3 : cs.length = 3) (hc1 : ∀ c ∈ cs, 1 ≤ c)
    (O : Own base h [(li, ilP (ofB line)), (ci, ilP (ofN cs))])
    (k : ∀ n dv h' tk', BytsAre dv (dueF cs line e) → Own base h' [(li, ilP (ofB line)), (ci, ilP (ofN cs)), (n, lstP dv)] →
      Step h h' [(li, ilP (ofB line)), (ci, ilP (ofN cs))] [(li, ilP (ofB line)), (ci, ilP (ofN cs)), (n, lstP dv)] → Q (.ref n) ⟨h', g, d, tk', os⟩) :
    wpB (model prog w) A (call (.ref 257) [.ref li, .int (e.toNat : Int) te, .ref ci]) Q NoE ⟨h, g, d, tk, os⟩ := by
  have hel := e.toNat_lt
  refine b_callK (a := 257) S O (by kernel_rfl) R.lim (binds := [(Str.ofString "line", .ref li), (Str.ofString "end", .int (e.toNat : Int) te), (Str.ofString "counts", .ref ci)]) (by kernel_rfl) (by kernel_rfl) fun h₁ tk₁ D => ?_
  rw [body_257]
  obtain ⟨lv, hlv, D⟩ := D.ints (i := 0) rfl
  obtain ⟨cv, hcv, D⟩ := D.ints (i := 1) (x := ci) (ns := ofN cs) rfl
  have hlvl : lv.length = line.length := by rw [hlv.length, ofB_len]
  have hcvl : cv.length = 3 := by rw [hcv.length, ofN_len, hc3]
  have D : Led base h [(li, ilP (ofB line)), (ci, ilP (ofN cs))] h.objs.size h₁ _ [(li, lstP lv), (ci, lstP cv)] := D
  -- behind the loop
  have fin : ∀ (mm : Addr) (mv : List Value) (made : List (List UInt8)) (hx : Heap) (tk : Nat) (rest : List Item) (lsx : List (Str × Value)), Led base h [(li, ilP (ofB line)), (ci, ilP (ofN cs))] h.objs.size hx (Vars lsx) ((mm, lstP mv) :: (li, lstP lv) :: (ci, lstP cv) :: rest) →
      BytsAre mv made → made.length ≤ 100 → dueF cs line e = made ++ (if e = 4 then [[]] else []) → lsx.lookup (Str.ofString "made") = some (.ref mm) → lsx.lookup (Str.ofString "end") = some (.int (e.toNat : Int) te) →
      wpB (model prog w) (A.deeper (envK w.params 257 h.objs.size [])) (execs (body257.drop 2) (envK w.params 257 h.objs.size [])) (fun f s' => Q (match f with | .ret v => v | _ => .none) s') NoE ⟨hx, g, d, tk, os⟩ := by
    intro mm mv made hx tk rest lsx D hmv hml hF hm he
    refine b_execs_cons (b_Return_some ?_)
    refine b_BinOp ?_
    refine b_local D hm ?_
    refine b_BinOp ?_
    refine b_List ?_
    refine b_args ?_
    refine b_bytes ?_
    refine b_args_nil ?_
    refine l_newList D fun n₁ h₅ tk₅ D => ?_
    refine b_callBlt S D boot_int' ?_
    refine b_args ?_
    refine b_Compare ?_
    refine b_local D he ?_
    refine b_int ?_
    refine of_any (eq_int ?_)
    refine b_args_nil ?_
    refine of_any (call_int_bool ?_)
    have e4 : ((e.toNat : Int) == (4 : Int)) = (e == 4) := u8_eq e 4 (by omega)
    rw [e4]
    refine l_mulL (i := 0) D rfl (by split <;> decide) (by split <;> decide) (by simp) (by simp) fun n₂ h₆ tk₆ D => ?_
    refine l_addL (i := 2) (j := 0) D rfl rfl (by rw [hmv.length]; cases e == 4 <;> simp <;> omega) fun n₃ h₇ tk₇ D => ?_
    have D := D.pick [4, 5, 0]
    have D := D.say (i := 0) (P := lstP lv) (P' := ilP (ofB line)) rfl fun o _ h => ⟨lv, hlv, h⟩
    have D := D.say (i := 1) (P := lstP cv) (P' := ilP (ofN cs)) rfl fun o _ h => ⟨cv, hcv, h⟩
    refine k n₃ _ _ _ ?_ D.own D.step
    rw [hF]
    refine hmv.append ?_
    by_cases h4 : e = 4
    · subst h4; exact .cons [] _ .nil
    · rw [if_neg h4, show (e == 4) = false from beq_false_of_ne h4]; exact .nil
  -- made, left = ([], line + [10] * int(end != 4))
  refine b_execs_cons ?_
  refine b_AssignSwap [Str.ofString "made", Str.ofString "left"] ?_ (by kernel_rfl) (by kernel_rfl)
  refine b_Tuple ?_
  refine b_args ?_
  refine b_List ?_
  refine b_args_nil ?_
  refine l_newList D fun m₀ h₂ tk₂ D => ?_
  refine b_args ?_
  refine b_BinOp ?_
  refine b_local D rfl ?_
  refine b_BinOp ?_
  refine b_List ?_
  refine b_args ?_
  refine b_int ?_
  refine b_args_nil ?_
  refine l_newList D fun n₁ h₅ tk₅ D => ?_
  refine b_callBlt S D boot_int' ?_
  refine b_args ?_
  refine b_Compare ?_
  refine b_local D rfl ?_
  refine b_int ?_
  refine of_any (ne_int ?_)
  refine b_args_nil ?_
  refine of_any (call_int_bool ?_)
  rw [u8_ne4]
  refine l_mulL (i := 0) D rfl (by split <;> decide) (by split <;> decide) (by simp) (by simp) fun n₂ h₆ tk₆ D => ?_
  refine l_addL (i := 3) (j := 0) D rfl rfl (by rw [hlvl]; cases e == 4 <;> simp <;> omega) fun n₃ h₇ tk₇ D => ?_
  refine b_args_nil ?_
  refine l_newTuple D fun n₄ h₈ tk₈ D => ?_
  refine l_unpackItems (A := A.deeper _) R.hand D (i := 0) rfl rfl fun h₉ tk₉ D => ?_
  refine b_order_cons (b_bindName (b_store D fun h₁₀ tk₁₀ D => ?_))
  refine b_order_cons (b_bindName (b_store D fun h₁₁ tk₁₁ D => ?_))
  refine b_order_nil ?_
  have D := D.pick [4, 1, 5, 6]
  have hleft : ∀ t : Tok, BytesAre (lv ++ (List.replicate (Int.toNat (if (!(e == 4)) = true then 1 else 0)) [Value.int 10 t]).flatten) (leftF line e) := by
    intro t
    show IntsAre _ _
    unfold leftF
    rw [ofB_append]
    refine hlv.append ?_
    by_cases h4 : e = 4
    · subst h4; exact .nil
    · rw [if_neg h4, show (e == 4) = false from beq_false_of_ne h4]; exact .cons _ _ .nil
  have hLl : (leftF line e).length ≤ 30 := by unfold leftF; rw [List.length_append]; split <;> simp <;> omega
  refine b_execs_cons ?_
  refine b_While (fun n s => ∃ (mm lf : Addr) (mv lw : List Value) (made : List (List UInt8)) (left : List UInt8) (hx : Heap) (tk : Nat) (lsx : List (Str × Value)), s = ⟨hx, g, d, tk, os⟩ ∧ left.length ≤ n ∧ n + made.length ≤ 30 ∧ BytsAre mv made ∧ BytesAre lw left ∧
      Led base h [(li, ilP (ofB line)), (ci, ilP (ofN cs))] h.objs.size hx (Vars lsx) [(mm, lstP mv), (lf, lstP lw), (li, lstP lv), (ci, lstP cv)] ∧
      lsx.lookup (Str.ofString "made") = some (.ref mm) ∧ lsx.lookup (Str.ofString "left") = some (.ref lf) ∧ lsx.lookup (Str.ofString "counts") = some (.ref ci) ∧ lsx.lookup (Str.ofString "end") = some (.int (e.toNat : Int) te) ∧
      chunkF (cntF cs) 30 0 (leftF line e) = made ++ chunkF (cntF cs) n made.length left) 30
    ⟨m₀, n₃, [], _, [], leftF line e, h₁₁, tk₁₁, _, rfl, hLl, by simp, .nil, hleft _, D, rfl, rfl, rfl, rfl, rfl⟩ ?_
  rintro n s ⟨mm, lf, mv, lw, made, left, hx, tk, lsx, rfl, hln, hnm, hmv, hlw, D, hsm, hsl, hsc, hse, hF⟩
  have hlwl : lw.length = left.length := by rw [hlw.length, ofB_len]
  have hmvl := hmv.length
  refine b_isTrue_Compare ?_
  refine b_local D hsl ?_
  refine b_List ?_
  refine b_args_nil ?_
  refine l_newList D fun n₁ h₅ tk₅ D => ?_
  refine l_neInts (i := 2) (j := 0) D rfl rfl hlw .nil R.deeper.cline ?_
  refine b_truthy_bool ?_
  have D := D.drop1
  by_cases hl0 : left = []
  · subst hl0
    rw [if_neg (by simp [ofB])]
    rw [chunkF_nil, List.append_nil] at hF
    exact fin mm mv made _ _ [] lsx (D.pick [0, 2, 3]) hmv (by omega) (by unfold dueF; rw [hF]) hsm hse
  · have hlp : 1 ≤ left.length := by cases left <;> simp_all
    rw [if_pos (by simp [ofB, hl0])]
    obtain ⟨n, rfl⟩ : ∃ n', n = n' + 1 := ⟨n - 1, by omega⟩
    -- count = counts[len(made) % len(counts)]
    refine b_execs_cons ?_
    refine b_Assign ?_ (by kernel_rfl) (by kernel_rfl)
    refine b_Item ?_
    refine b_local D hsc ?_
    refine b_BinOp ?_
    refine b_callBlt S D PySem.boot_len ?_
    refine b_args ?_
    refine b_local D hsm ?_
    refine b_args_nil ?_
    refine l_lenL (i := 0) D rfl lst_any (by omega) fun _ tk₆ => ?_
    refine b_callBlt S D PySem.boot_len ?_
    refine b_args ?_
    refine b_local D hsc ?_
    refine b_args_nil ?_
    refine l_lenL (i := 3) D rfl lst_any (by omega) fun _ tk₇ => ?_
    rw [hcvl]
    refine of_any (mod_int (by decide) ?_)
    have em : (mv.length : Int).fmod ((3 : Nat) : Int) = ((made.length % 3 : Nat) : Int) := by rw [hmvl]; exact mod3 _
    rw [em]
    obtain ⟨tc, hct⟩ := nat_at hcv (k := made.length % 3) (by rw [hc3]; omega)
    refine l_itemL (i := 3) D rfl lst_any (by omega) (by rw [Int.toNat_natCast]; exact hct) (by omega) ?_
    have hcnt : cs.getD (made.length % 3) 1 = cntF cs made.length := rfl
    rw [hcnt]
    have hcp : 1 ≤ cntF cs made.length := by
      unfold cntF
      rw [List.getD_eq_getElem?_getD]
      cases hq : cs[made.length % 3]? with
      | none => exact Nat.le_refl _
      | some c => exact hc1 c (List.mem_of_getElem? hq)
    refine b_assign_Name ?_
    refine b_store D fun h₈ tk₈ D => ?_
    -- made, left = ...
    refine b_execs_cons ?_
    refine b_AssignSwap [Str.ofString "made", Str.ofString "left"] ?_ (by kernel_rfl) (by kernel_rfl)
    refine b_Tuple ?_
    refine b_args ?_
    refine b_BinOp ?_
    refine b_local D hsm ?_
    refine b_List ?_
    refine b_args ?_
    refine b_callBlt S D PyProof.Rows.boot_bytes ?_
    refine b_args ?_
    refine b_SliceOf ?_
    refine b_local D hsl ?_
    refine b_part_none ?_
    refine b_part_some ?_
    refine b_local D rfl ?_
    refine l_sliceL (i := 1) D rfl lst_any .none (.int _ _) (by omega) fun n₂ h₉ tk₉ D => ?_
    rw [slicePick_upto'] at D
    refine b_args_nil ?_
    refine l_bytesInts (A := A.deeper _) R.hand D (i := 0) rfl (ns := ofB (left.take (cntF cs made.length))) (by rw [ofB_take]; simpa using hlw.take _) (ofB_in _) (by simp; omega) fun h₁₀ tk₁₀ t₁₀ D => ?_
    rw [byteArr_ofB]
    refine b_args_nil ?_
    refine l_newList D fun n₃ h₁₂ tk₁₂ D => ?_
    refine l_addL (i := 2) (j := 0) D rfl rfl (by simp; omega) fun n₄ h₁₃ tk₁₃ D => ?_
    refine b_args ?_
    refine b_SliceOf ?_
    refine b_local D hsl ?_
    refine b_part_some ?_
    refine b_local D rfl ?_
    refine b_part_none ?_
    refine l_sliceL (i := 4) D rfl lst_any (.int _ _) .none (by omega) fun n₅ h₁₄ tk₁₄ D => ?_
    rw [slicePick_from'] at D
    refine b_args_nil ?_
    refine l_newTuple D fun n₆ h₁₅ tk₁₅ D => ?_
    refine l_unpackItems (A := A.deeper _) R.hand D (i := 0) rfl rfl fun h₁₆ tk₁₆ D => ?_
    refine b_order_cons (b_bindName (b_store D fun h₁₇ tk₁₇ D => ?_))
    refine b_order_cons (b_bindName (b_store D fun h₁₈ tk₁₈ D => ?_))
    refine b_order_nil (b_execs_nil ?_)
    have D := D.pick [2, 1, 7, 8]
    rw [chunkF_cons _ hl0] at hF
    refine ⟨n, Nat.lt_succ_self _, n₄, n₅, _, _, made ++ [left.take (cntF cs made.length)], left.drop (cntF cs made.length), h₁₈, tk₁₈,
      (Str.ofString "made", .ref n₄) :: (Str.ofString "left", .ref n₅) :: (Str.ofString "count", .int (cntF cs made.length : Nat) tc) :: lsx, rfl, ?_, ?_, hmv.append (.cons _ _ .nil), ?_, D, rfl, rfl, hsc, hse, ?_⟩
    · rw [List.length_drop]; omega
    · rw [List.length_append]; simp; omega
    · show IntsAre _ _; rw [ofB_drop]; simpa using hlw.drop _
    · rw [hF, List.append_assoc, List.length_append]; rfl
end
end Mine
end

noncomputable section
set_option maxHeartbeats 4000000

namespace Mine
open PySem PySem.Calls PyProof.Rows PySem.W

abbrev RL := List (Addr × List UInt8)
noncomputable def rowsL (rl : RL) : List Item := rl.map fun p => (p.1, ilP (ofB p.2))
noncomputable def refsL (rl : RL) : List Value := rl.map fun p => .ref p.1
abbrev Scr := List (List UInt8) × List UInt8 × Nat
noncomputable def scrS (st : Scr) (c : UInt8) : Scr :=
  if c = 8 then (st.1, st.2.1, st.2.2 - 1)
  else if c = 10 then (st.1 ++ [st.2.1], [], 0)
  else if c = 4 then st
  else (st.1, st.2.1.take st.2.2 ++ [c] ++ st.2.1.drop (st.2.2 + 1), st.2.2 + 1)
noncomputable def scrF (octs : List UInt8) : Scr := octs.foldl scrS ([], [], 0)
noncomputable def stripF (row : List UInt8) : List UInt8 := (row.reverse.dropWhile (· == 32)).reverse
noncomputable def screenF (octs : List UInt8) : List (List UInt8) := ((scrF octs).1 ++ [(scrF octs).2.1]).map stripF

theorem strip_snoc32 (r : List UInt8) : stripF (r ++ [32]) = stripF r := by
  unfold stripF
  rw [List.reverse_append]; rfl
theorem strip_snoc (r : List UInt8) {c : UInt8} (h : c ≠ 32) : stripF (r ++ [c]) = r ++ [c] := by
  unfold stripF
  rw [List.reverse_append]
  show (List.dropWhile _ (c :: r.reverse)).reverse = _
  rw [List.dropWhile_cons, if_neg (by simpa using h)]
  simp
theorem scrF_sizes (octs : List UInt8) : (scrF octs).1.length ≤ octs.length ∧ (scrF octs).2.1.length ≤ octs.length ∧ (scrF octs).2.2 ≤ octs.length := by
  unfold scrF
  have key : ∀ (l : List UInt8) (st : Scr) (n : Nat), st.1.length ≤ n → st.2.1.length ≤ n → st.2.2 ≤ n → (l.foldl scrS st).1.length ≤ n + l.length ∧ (l.foldl scrS st).2.1.length ≤ n + l.length ∧ (l.foldl scrS st).2.2 ≤ n + l.length := by
    intro l
    induction l with
    | nil => intro st n h1 h2 h3; exact ⟨h1, h2, h3⟩
    | cons c r ih =>
      intro st n h1 h2 h3
      rw [List.foldl_cons, List.length_cons]
      have := ih (scrS st c) (n + 1) (by unfold scrS; split; · exact Nat.le_succ_of_le h1
                                         split; · simp; exact h1
                                         split; · exact Nat.le_succ_of_le h1
                                         exact Nat.le_succ_of_le h1)
        (by unfold scrS; split; · exact Nat.le_succ_of_le h2
            split; · simp
            split; · exact Nat.le_succ_of_le h2
            simp; omega)
        (by unfold scrS; split; · show st.2.2 - 1 ≤ _; omega
            split; · exact Nat.zero_le _
            split; · exact Nat.le_succ_of_le h3
            exact Nat.succ_le_succ h3)
      omega
  have := key octs ([], [], 0) 0 (Nat.le_refl _) (Nat.le_refl _) (Nat.le_refl _)
  simpa using this

theorem scrF_rows (octs : List UInt8) : ∀ r ∈ (scrF octs).1, r.length ≤ octs.length := by
  unfold scrF
  have key : ∀ (l : List UInt8) (st : Scr) (n : Nat), (∀ r ∈ st.1, r.length ≤ n) → st.2.1.length ≤ n → ∀ r ∈ (l.foldl scrS st).1, r.length ≤ n + l.length := by
    intro l
    induction l with
    | nil => intro st n h1 h2; exact h1
    | cons c r ih =>
      intro st n h1 h2
      rw [List.foldl_cons, List.length_cons]
      have h1' : ∀ r ∈ st.1, r.length ≤ n + 1 := fun r hr => Nat.le_succ_of_le (h1 r hr)
      have := ih (scrS st c) (n + 1) (by
        unfold scrS; split
        · exact h1'
        split
        · intro r hr
          rcases List.mem_append.mp hr with hr | hr
          · exact h1' r hr
          · rw [List.mem_singleton.mp hr]; omega
        split
        · exact h1'
        exact h1')
        (by unfold scrS; split; · exact Nat.le_succ_of_le h2
            split; · simp
            split; · exact Nat.le_succ_of_le h2
            simp; omega)
      intro q hq
      have := this q hq
      omega
  have := key octs ([], [], 0) 0 (by intro r hr; cases hr) (Nat.le_refl _)
  simpa using this

section
variable {M : Model} {prog : Program} {w : World} {A : Around} {E : Value → Shared → Prop} {base h₀ h : Heap} {l₀ l : List Item} {L : Addr} {g : Array GenState} {d : Drawn} {tk : Nat} {os : OsState} {ls : List (Str × Value)} {a : Addr} {cl : List (Str × Addr)} {s : Shared} {env : Env}
  {m : Str → Option Value} {i j : Nat} {x y : Addr} {P P' : Obj → Prop} {vs : List Value}

theorem Own.sub {l' : List Item} (O : Own base h l) (hs : ∀ p ∈ l', p ∈ l) (hn : (l'.map (·.1)).Nodup) : Own base h l' :=
  ⟨O.stay, O.lowH, fun p hp => O.get p (hs p hp), fun p hp => O.new p (hs p hp), hn⟩
theorem Led.sub {l' : List Item} (D : Led base h₀ l₀ L h m l) (hs : ∀ p ∈ l', p ∈ l) (hn : (l'.map (·.1)).Nodup) : Led base h₀ l₀ L h m l' := by
  have hm : ∀ a ∈ l'.map (·.1), a ∈ l.map (·.1) := fun a ha => by
    obtain ⟨p, hp, rfl⟩ := List.mem_map.mp ha
    exact List.mem_map_of_mem (hs p hp)
  exact ⟨D.ns, D.low, D.up, D.own.sub hs hn, fun q => D.off (hm _ q), ⟨D.step.keep, fun a ha => D.step.back a (hm a ha), D.step.size⟩⟩
theorem Led.perm {l' : List Item} (D : Led base h₀ l₀ L h m l) (hp : l.Perm l') : Led base h₀ l₀ L h m l' :=
  D.sub (fun p q => hp.mem_iff.mpr q) ((hp.map _).nodup_iff.mp D.own.nd)
theorem Led.pickN (D : Led base h₀ l₀ L h m l) (n : Nat) (idx : List Nat) (hn : idx.Nodup := by decide) : Led base h₀ l₀ L h m (idx.filterMap ((l.take n)[·]?) ++ l.drop n) := by
  have D' : Led base h₀ l₀ L h m (l.take n ++ l.drop n) := by rw [List.take_append_drop]; exact D
  have nd := D'.own.nd
  rw [List.map_append, List.nodup_append] at nd
  refine D'.sub (fun p hp => ?_) ?_
  · rcases List.mem_append.mp hp with hp | hp
    · obtain ⟨i, _, hi⟩ := List.mem_filterMap.mp hp
      exact List.mem_append_left _ (List.mem_of_getElem? hi)
    · exact List.mem_append_right _ hp
  · rw [List.map_append, List.nodup_append]
    exact ⟨(D'.own.left.pick idx hn).nd, nd.2.1, fun a ha b hb => nd.2.2 a (mem_pick ha) b hb⟩

theorem ints_snoc : ∀ {ns : List Int} {n : Int} {vs : List Value}, IntsAre vs (ns ++ [n]) → ∃ us t, vs = us ++ [.int n t] ∧ IntsAre us ns
  | [], n, vs, hv => by
    obtain ⟨t, r, rfl, hr⟩ := IntsAre.cons_inv hv
    obtain rfl := IntsAre.nil_inv hr
    exact ⟨[], t, rfl, .nil⟩
  | k :: ns, n, vs, hv => by
    obtain ⟨t, r, rfl, hr⟩ := IntsAre.cons_inv hv
    obtain ⟨us, u, rfl, hu⟩ := ints_snoc hr
    exact ⟨.int k t :: us, u, rfl, .cons _ _ hu⟩
theorem bytes_snoc {b : List UInt8} {c : UInt8} {vs : List Value} (hv : BytesAre vs (b ++ [c])) : ∃ us t, vs = us ++ [.int (c.toNat : Int) t] ∧ BytesAre us b := by
  have hv : IntsAre vs (ofB (b ++ [c])) := hv
  rw [ofB_append] at hv
  exact ints_snoc hv
theorem b_Unary {op x pos} {Q : Value → Shared → Prop} (h : wpB M A (eval x env) (fun v s' => wpB M A (unaryOp op v) Q E s') E s) : wpB M A (eval (.UnaryOp op x pos) env) Q E s := by
  rw [PyProof.Rows.eval_UnaryOp]
  exact b_bind (b_mono h (fun v s' h' => b_bind (b_standAt (b_holding h'))) fun _ _ x => x)
theorem l_itemLastL {u : Tok} {v : Value} {value slice : Expr} {Q : Value → Shared → Prop} (D : Led base h₀ l₀ L h m l) (hi : l[i]? = some (x, P)) (hP : ∀ o, P o → anyL (vs ++ [v]) o)
    (hz : vs.length ≤ 1000) (q : Q v ⟨h, g, d, tk, os⟩) (hs : notSlice slice = true := by rfl) : ItemTail (model prog w) A value slice (.ref x) (.int (-1) u) Q E ⟨h, g, d, tk, os⟩ := by
  have hL := D.isList hi hP
  refine item_tail (s := ⟨h, g, d, tk, os⟩) hL.typeIs slot_list_getitem.lookup (of_any (wpAny_getItem_list_neg (s := ⟨h, g, d, tk, os⟩) hL (by decide) (by simp; omega) (by decide) ?_ q)) hs
  have : (-1 + ((vs ++ [v]).toArray.size : Int)).toNat = vs.length := by simp; omega
  rw [this]
  simp
theorem l_max0 {b : Int} {t u : Tok} {Q : Value → Shared → Prop} (hh : A.handled = none) (D : Led base h₀ l₀ L h m l)
    (k : ∀ h' tk' t', Led base h₀ l₀ L h' m l → Q (.int (max 0 b) t') ⟨h', g, d, tk', os⟩) : wpB (model prog w) A (call (.builtin "max") [.int 0 t, .int b u]) Q E ⟨h, g, d, tk, os⟩ :=
  of_any (max_two_ints (s := ⟨h, g, d, tk, os⟩) hh fun h' tk' hk => by
    have D := D.grow hk
    by_cases hb : b > 0
    · rw [if_pos hb]
      have := k h' tk' u D
      rwa [show max 0 b = b by omega] at this
    · rw [if_neg hb]
      have := k h' tk' t D
      rwa [show max 0 b = 0 by omega] at this)

theorem screen_spec {octs : List UInt8} {t : Tok} {Q : Value → Shared → Prop} (S : Stat w base) (R : Room A 1) (hz : octs.length ≤ 900)
    (O : Own base h [])
    (k : ∀ n ml h' tk', ml.map (·.2) = screenF octs → Own base h' ((n, lstP (refsL ml)) :: rowsL ml) → Step h h' [] ((n, lstP (refsL ml)) :: rowsL ml) → Q (.ref n) ⟨h', g, d, tk', os⟩) :
    wpB (model prog w) A (call (.ref 250) [.bytes octs.toArray t]) Q NoE ⟨h, g, d, tk, os⟩ := by
  refine b_callK (a := 250) S O (by kernel_rfl) R.lim (binds := [(Str.ofString "octets", .bytes octs.toArray t)]) (by kernel_rfl) (by kernel_rfl) fun h₁ tk₁ D => ?_
  rw [body_250]
  -- rows, row, at = ([], [], 0)
  refine b_execs_cons ?_
  refine b_AssignSwap [Str.ofString "rows", Str.ofString "row", Str.ofString "at"] ?_ (by kernel_rfl) (by kernel_rfl)
  refine b_Tuple ?_
  refine b_args ?_
  refine b_List ?_
  refine b_args_nil ?_
  refine l_newList D fun n₁ h₂ tk₂ D => ?_
  refine b_args ?_
  refine b_List ?_
  refine b_args_nil ?_
  refine l_newList D fun n₂ h₃ tk₃ D => ?_
  refine b_args ?_
  refine b_int ?_
  refine b_args_nil ?_
  refine l_newTuple D fun n₃ h₄ tk₄ D => ?_
  refine l_unpackItems (A := A.deeper _) R.hand D (i := 0) rfl rfl fun h₅ tk₅ D => ?_
  refine b_order_cons (b_bindName (b_store D fun h₆ tk₆ D => ?_))
  refine b_order_cons (b_bindName (b_store D fun h₇ tk₇ D => ?_))
  refine b_order_cons (b_bindName (b_store D fun h₈ tk₈ D => ?_))
  refine b_order_nil ?_
  have D := D.pick [2, 1]
  refine b_execs_cons ?_
  refine b_For ?_
  refine b_local D rfl ?_
  refine l_iterBytes D fun it h₉ tk₉ D => ?_
  refine b_ForW (nexts_bytes (A := A.deeper _) R.hand it octs t) (fun i ls l => ∃ (rs rw : Addr) (rl : RL) (rv : List Value) (row : List UInt8) (at' : Nat) (ta : Tok), l = (rs, lstP (refsL rl)) :: (rw, lstP rv) :: rowsL rl ∧ BytesAre rv row ∧
      scrF (octs.take i) = (rl.map (·.2), row, at') ∧ ls.lookup (Str.ofString "rows") = some (.ref rs) ∧ ls.lookup (Str.ofString "row") = some (.ref rw) ∧ ls.lookup (Str.ofString "at") = some (.int (at' : Nat) ta)) D
    ⟨n₁, n₂, [], [], [], 0, _, rfl, .nil, by simp [scrF], rfl, rfl, rfl⟩ (fun _ _ _ _ => trivial) ?_ ?_
  · rintro i v hx tk lsx l hi ⟨c, u, hc, rfl⟩ ⟨rs, rw, rl, rv, row, at', ta, rfl, hrv, hF, h1, h2, h3⟩ D
    have hcl := c.toNat_lt
    have htk : octs.take (i + 1) = octs.take i ++ [c] := by rw [List.take_add_one, hc]; rfl
    have hF' : scrF (octs.take (i + 1)) = scrS (rl.map (·.2), row, at') c := by
      rw [htk]; unfold scrF; rw [List.foldl_append]
      show scrS (scrF (octs.take i)) c = _
      rw [hF]
    have hsz := scrF_sizes (octs.take i)
    rw [hF] at hsz
    have hlt : (octs.take i).length ≤ 900 := Nat.le_trans (List.length_take_le' _ _) hz
    have hrl : rl.length ≤ 900 := by have := hsz.1; rw [List.length_map] at this; omega
    have hrow : row.length ≤ 900 := Nat.le_trans hsz.2.1 hlt
    have hat : at' ≤ 900 := Nat.le_trans hsz.2.2 hlt
    have hrvl : rv.length = row.length := by rw [hrv.length, ofB_len]
    refine b_execs_cons ?_
    refine b_If ?_
    refine b_isTrue_Compare ?_
    refine b_local D rfl ?_
    refine b_int ?_
    refine of_any (eq_int ?_)
    refine b_truthy_bool ?_
    have e8 : ((c.toNat : Int) == (8 : Int)) = (c == 8) := u8_eq c 8 (by omega)
    rw [e8]
    by_cases h8 : c = 8
    · rw [if_pos (by simpa using h8)]
      refine b_execs_cons ?_
      refine b_Assign ?_ (by kernel_rfl) (by kernel_rfl)
      refine b_callBlt S D boot_max' ?_
      refine b_args ?_
      refine b_int ?_
      refine b_args ?_
      refine b_BinOp ?_
      refine b_local D h3 ?_
      refine b_int ?_
      refine of_any (sub_int ?_)
      refine b_args_nil ?_
      refine l_max0 (A := A.deeper _) R.hand D fun h₁₀ tk₁₀ t₁₀ D => ?_
      refine b_assign_Name ?_
      refine b_store D fun h₁₁ tk₁₁ D => ?_
      refine b_execs_nil (b_execs_nil ?_)
      rw [h8] at hF'
      have em : max 0 ((at' : Int) - 1) = ((at' - 1 : Nat) : Int) := by omega
      rw [em] at D
      exact ⟨_, _, (Str.ofString "at", .int ((at' - 1 : Nat) : Int) t₁₀) :: (Str.ofString "octet", .int (c.toNat : Int) u) :: lsx, _, rfl, ⟨rs, rw, rl, rv, row, at' - 1, t₁₀, rfl, hrv, hF', h1, h2, rfl⟩, D⟩
    · rw [if_neg (by simpa using h8)]
      refine b_execs_cons ?_
      refine b_If ?_
      refine b_isTrue_Compare ?_
      refine b_local D rfl ?_
      refine b_int ?_
      refine of_any (eq_int ?_)
      refine b_truthy_bool ?_
      have e10 : ((c.toNat : Int) == (10 : Int)) = (c == 10) := u8_eq c 10 (by omega)
      rw [e10]
      by_cases h10 : c = 10
      · rw [if_pos (by simpa using h10)]
        refine b_execs_cons ?_
        refine b_AssignSwap [Str.ofString "rows", Str.ofString "row", Str.ofString "at"] ?_ (by kernel_rfl) (by kernel_rfl)
        refine b_Tuple ?_
        refine b_args ?_
        refine b_BinOp ?_
        refine b_local D h1 ?_
        refine b_List ?_
        refine b_args ?_
        refine b_local D h2 ?_
        refine b_args_nil ?_
        refine l_newList D fun n₁ h₁₁ tk₁₁ D => ?_
        refine l_addL (i := 2) (j := 0) D rfl rfl (by unfold refsL; simp; omega) fun n₂ h₁₂ tk₁₂ D => ?_
        refine b_args ?_
        refine b_List ?_
        refine b_args_nil ?_
        refine l_newList D fun n₃ h₁₃ tk₁₃ D => ?_
        refine b_args ?_
        refine b_int ?_
        refine b_args_nil ?_
        refine l_newTuple D fun n₄ h₁₄ tk₁₄ D => ?_
        refine l_unpackItems (A := A.deeper _) R.hand D (i := 0) rfl rfl fun h₁₅ tk₁₅ D => ?_
        refine b_order_cons (b_bindName (b_store D fun h₁₆ tk₁₆ D => ?_))
        refine b_order_cons (b_bindName (b_store D fun h₁₇ tk₁₇ D => ?_))
        refine b_order_cons (b_bindName (b_store D fun h₁₈ tk₁₈ D => ?_))
        refine b_order_nil (b_execs_nil (b_execs_nil (b_execs_nil ?_)))
        have er : refsL rl ++ [Value.ref rw] = refsL (rl ++ [(rw, row)]) := by unfold refsL; rw [List.map_append]; rfl
        rw [er] at D
        have D := D.pickN 7 [4, 2, 1, 6]
        have D := D.say (i := 3) (P := lstP rv) (P' := ilP (ofB row)) rfl fun o _ h => ⟨rv, hrv, h⟩
        have D := D.perm (l' := (it, bitP octs.toArray t (i + 1)) :: (n₂, lstP (refsL (rl ++ [(rw, row)]))) :: (n₃, lstP []) :: rowsL (rl ++ [(rw, row)])) (by
          refine .cons _ (.cons _ (.cons _ ?_))
          unfold rowsL; rw [List.map_append]
          exact (List.perm_append_singleton _ _).symm)
        rw [h10] at hF'
        refine ⟨_, _, (Str.ofString "rows", .ref n₂) :: (Str.ofString "row", .ref n₃) :: (Str.ofString "at", .int 0 _) :: (Str.ofString "octet", .int (c.toNat : Int) u) :: lsx, _, rfl, ⟨n₂, n₃, rl ++ [(rw, row)], [], [], 0, _, rfl, .nil, ?_, rfl, rfl, rfl⟩, D⟩
        rw [hF', List.map_append]; rfl
      · rw [if_neg (by simpa using h10)]
        refine b_execs_cons ?_
        refine b_If ?_
        refine b_isTrue_Compare ?_
        refine b_local D rfl ?_
        refine b_int ?_
        refine of_any (ne_int ?_)
        refine b_truthy_bool ?_
        rw [u8_ne4]
        by_cases h4 : c = 4
        · rw [if_neg (by simpa using h4)]
          refine b_execs_nil (b_execs_nil (b_execs_nil (b_execs_nil ?_)))
          rw [h4] at hF'
          exact ⟨_, _, (Str.ofString "octet", .int (c.toNat : Int) u) :: lsx, _, rfl, ⟨rs, rw, rl, rv, row, at', ta, rfl, hrv, hF', h1, h2, h3⟩, D⟩
        · rw [if_pos (by simpa using h4)]
          refine b_execs_cons ?_
          refine b_AssignSwap [Str.ofString "row", Str.ofString "at"] ?_ (by kernel_rfl) (by kernel_rfl)
          refine b_Tuple ?_
          refine b_args ?_
          refine b_BinOp ?_
          refine b_BinOp ?_
          refine b_SliceOf ?_
          refine b_local D h2 ?_
          refine b_part_none ?_
          refine b_part_some ?_
          refine b_local D h3 ?_
          refine l_sliceL (i := 2) D rfl lst_any .none (.int _ _) (by omega) fun n₁ h₁₀ tk₁₀ D => ?_
          rw [slicePick_upto'] at D
          refine b_List ?_
          refine b_args ?_
          refine b_local D rfl ?_
          refine b_args_nil ?_
          refine l_newList D fun n₂ h₁₁ tk₁₁ D => ?_
          refine l_addL (i := 1) (j := 0) D rfl rfl (by simp; omega) fun n₃ h₁₂ tk₁₂ D => ?_
          refine b_SliceOf ?_
          refine b_local D h2 ?_
          refine b_part_some ?_
          refine b_BinOp ?_
          refine b_local D h3 ?_
          refine b_int ?_
          refine of_any (add_int ?_)
          refine b_part_none ?_
          refine l_sliceL (i := 5) (lo' := some ((at' + 1 : Nat) : Int)) D rfl lst_any (.int _ _) .none (by omega) fun n₄ h₁₃ tk₁₃ D => ?_
          rw [slicePick_from'] at D
          refine l_addL (i := 1) (j := 0) D rfl rfl (by simp; omega) fun n₅ h₁₄ tk₁₄ D => ?_
          refine b_args ?_
          refine b_BinOp ?_
          refine b_local D h3 ?_
          refine b_int ?_
          refine of_any (add_int ?_)
          refine b_args_nil ?_
          refine l_newTuple D fun n₆ h₁₅ tk₁₅ D => ?_
          refine l_unpackItems (A := A.deeper _) R.hand D (i := 0) rfl rfl fun h₁₆ tk₁₆ D => ?_
          refine b_order_cons (b_bindName (b_store D fun h₁₇ tk₁₇ D => ?_))
          refine b_order_cons (b_bindName (b_store D fun h₁₈ tk₁₈ D => ?_))
          refine b_order_nil (b_execs_nil (b_execs_nil (b_execs_nil (b_execs_nil ?_))))
          have D := D.pickN 9 [6, 7, 1]
          have hat' : ((at' : Int) + 1) = ((at' + 1 : Nat) : Int) := rfl
          refine ⟨_, _, (Str.ofString "row", .ref n₅) :: (Str.ofString "at", .int ((at' : Int) + 1) _) :: (Str.ofString "octet", .int (c.toNat : Int) u) :: lsx, _, rfl, ⟨rs, n₅, rl, _, row.take at' ++ [c] ++ row.drop (at' + 1), at' + 1, _, rfl, ?_, ?_, h1, rfl, rfl⟩, D⟩
          · show IntsAre _ _
            rw [ofB_append, ofB_append, ofB_take, ofB_drop]
            refine (IntsAre.append ?_ (bytes1 c u)).append ?_
            · simpa using hrv.take at'
            · simpa using hrv.drop (at' + 1)
          · rw [hF']; unfold scrS; rw [if_neg h8, if_neg h10, if_neg h4]
  · rintro hx tk lsx l ⟨rs, rw, rl, rv, row, at', ta, rfl, hrv, hF, h1, h2, h3⟩ D
    rw [List.take_length] at hF
    have hsz := scrF_sizes octs
    rw [hF] at hsz
    have hrl : rl.length ≤ 900 := by have := hsz.1; rw [List.length_map] at this; omega
    have hrow : row.length ≤ 900 := Nat.le_trans hsz.2.1 hz
    -- made = []
    refine b_execs_cons ?_
    refine b_Assign ?_ (by kernel_rfl) (by kernel_rfl)
    refine b_List ?_
    refine b_args_nil ?_
    refine l_newList D fun mm h₂ tk₂ D => ?_
    refine b_assign_Name ?_
    refine b_store D fun h₃ tk₃ D => ?_
    refine b_execs_cons ?_
    refine b_For ?_
    refine b_BinOp ?_
    refine b_local D h1 ?_
    refine b_List ?_
    refine b_args ?_
    refine b_local D h2 ?_
    refine b_args_nil ?_
    refine l_newList D fun n₁ h₄ tk₄ D => ?_
    refine l_addL (i := 2) (j := 0) D rfl rfl (by unfold refsL; simp; omega) fun la h₅ tk₅ D => ?_
    have er : refsL rl ++ [Value.ref rw] = refsL (rl ++ [(rw, row)]) := by unfold refsL; rw [List.map_append]; rfl
    rw [er] at D
    have D := D.pickN 5 [0, 2, 4]
    have D := D.say (i := 2) (P := lstP rv) (P' := ilP (ofB row)) rfl fun o _ h => ⟨rv, hrv, h⟩
    have D := D.perm (l' := (la, lstP (refsL (rl ++ [(rw, row)]))) :: (mm, lstP []) :: rowsL (rl ++ [(rw, row)])) (by
      refine .cons _ (.cons _ ?_)
      unfold rowsL; rw [List.map_append]
      exact (List.perm_append_singleton _ _).symm)
    have hall : screenF octs = (rl ++ [(rw, row)]).map (fun p => stripF p.2) := by
      unfold screenF
      rw [hF, List.map_append, List.map_append, List.map_map]; rfl
    have hlen : ∀ p ∈ rl ++ [(rw, row)], p.2.length ≤ 900 := by
      intro p hp
      rcases List.mem_append.mp hp with hp | hp
      · have := scrF_rows octs
        rw [hF] at this
        exact Nat.le_trans (this p.2 (List.mem_map_of_mem hp)) hz
      · rw [List.mem_singleton.mp hp]; exact hrow
    have hRl : (rl ++ [(rw, row)]).length ≤ 901 := by simp; omega
    generalize rl ++ [(rw, row)] = R' at *
    refine l_iterList D (vs := refsL R') (by simp) fun it₂ h₆ tk₆ D => ?_
    refine b_ForW (nexts_list (A := A.deeper _) R.hand it₂ la (refsL R')) (fun i ls l => ∃ ml : RL, l = (la, lstP (refsL R')) :: (mm, lstP (refsL ml)) :: (rowsL (R'.drop i) ++ rowsL ml) ∧ ml.map (·.2) = (R'.take i).map (fun p => stripF p.2) ∧ ls.lookup (Str.ofString "made") = some (.ref mm)) D
      ⟨[], by simp [rowsL, refsL], rfl, rfl⟩ (fun i ls l q => by obtain ⟨ml, rfl, _⟩ := q; simp) ?_ ?_
    · rintro i v hx tk lsx l hi hv ⟨ml, rfl, hml, hm⟩ D
      have hi' : i < R'.length := by unfold refsL at hi; simpa using hi
      have hmll : ml.length ≤ 901 := by
        have := congrArg List.length hml
        simp at this; omega
      have hv' : v = .ref R'[i].1 := by
        unfold refsL at hv
        rw [List.getElem?_map, List.getElem?_eq_getElem hi'] at hv
        cases hv; rfl
      subst hv'
      have hlp := hlen R'[i] (List.getElem_mem _)
      have hdr : R'.drop i = R'[i] :: R'.drop (i + 1) := List.drop_eq_getElem_cons hi'
      have htk : R'.take (i + 1) = R'.take i ++ [R'[i]] := by rw [List.take_add_one, List.getElem?_eq_getElem hi']; rfl
      rw [hdr] at D
      generalize R'[i] = p at *
      obtain ⟨r, b⟩ := p
      dsimp only at hlp
      obtain ⟨bv, hbv, D⟩ := D.ints (i := 3) (x := r) (ns := ofB b) rfl
      have D := D.pickN 4 [3, 0, 1, 2]
      refine b_execs_cons ?_
      refine b_While (fun n s => ∃ (r : Addr) (rv : List Value) (row : List UInt8) (hx : Heap) (tk : Nat) (lsx : List (Str × Value)), s = ⟨hx, g, d, tk, os⟩ ∧ n = row.length ∧ row.length ≤ 900 ∧ stripF row = stripF b ∧ BytesAre rv row ∧
          Led base h [] h.objs.size hx (Vars lsx) ((r, lstP rv) :: (it₂, litP la (i + 1)) :: (la, lstP (refsL R')) :: (mm, lstP (refsL ml)) :: (rowsL (R'.drop (i + 1)) ++ rowsL ml)) ∧
          lsx.lookup (Str.ofString "row") = some (.ref r) ∧ lsx.lookup (Str.ofString "made") = some (.ref mm)) b.length
        ⟨r, bv, b, hx, tk, _, rfl, rfl, hlp, rfl, hbv, D, rfl, hm⟩ ?_
      rintro n s ⟨r, rv, row, hx, tk, lsx, rfl, rfl, hrow, hst, hrv, D, hr, hm⟩
      have hrvl : rv.length = row.length := by rw [hrv.length, ofB_len]
      refine b_mono (Q := fun b' s' => ∃ hx tk, s' = ⟨hx, g, d, tk, os⟩ ∧ Led base h [] h.objs.size hx (Vars lsx) ((r, lstP rv) :: (it₂, litP la (i + 1)) :: (la, lstP (refsL R')) :: (mm, lstP (refsL ml)) :: (rowsL (R'.drop (i + 1)) ++ rowsL ml)) ∧
          ((b' = true ∧ ∃ r', row = r' ++ [32]) ∨ (b' = false ∧ stripF row = row))) (E := NoE) ?_ (fun b' s' hb => ?_) fun _ _ z => z
      · refine b_isTrue_And ?_
        refine b_isTrue_Compare ?_
        refine b_local D hr ?_
        refine b_List ?_
        refine b_args_nil ?_
        refine l_newList D fun n₁ h₅ tk₅ D => ?_
        refine l_neInts (i := 1) (j := 0) D rfl rfl hrv .nil R.deeper.cline ?_
        refine b_truthy_bool ?_
        have D := D.drop1
        rcases List.eq_nil_or_concat row with rfl | ⟨r', c, e⟩
        · rw [if_neg (by simp [ofB])]
          exact ⟨_, _, rfl, D, .inr ⟨rfl, rfl⟩⟩
        · rw [List.concat_eq_append] at e
          subst e
          rw [if_pos (by simp [ofB])]
          obtain ⟨rv', tc, rfl, hrv'⟩ := bytes_snoc hrv
          refine b_isTrue_Compare ?_
          refine b_Item ?_
          refine b_local D hr ?_
          refine b_Unary ?_
          refine b_int ?_
          refine of_any (neg_int ?_)
          refine l_itemLastL (i := 0) (vs := rv') D rfl lst_any (by simp at hrvl hrow; omega) ?_
          refine b_int ?_
          refine of_any (eq_int ?_)
          refine b_truthy_bool ?_
          have e32 : ((c.toNat : Int) == (32 : Int)) = (c == 32) := u8_eq c 32 (by omega)
          rw [e32]
          by_cases h32 : c = 32
          · subst h32
            exact ⟨_, _, rfl, D, .inl ⟨rfl, r', rfl⟩⟩
          · exact ⟨_, _, rfl, D, .inr ⟨beq_false_of_ne h32, strip_snoc r' h32⟩⟩
      · obtain ⟨hx, tk, rfl, D, ⟨rfl, r', rfl⟩ | ⟨rfl, hst'⟩⟩ := hb
        · rw [if_pos rfl]
          obtain ⟨rv', tc, rfl, hrv'⟩ := bytes_snoc hrv
          refine b_execs_cons ?_
          refine b_Assign ?_ (by kernel_rfl) (by kernel_rfl)
          refine b_SliceOf ?_
          refine b_local D hr ?_
          refine b_part_none ?_
          refine b_part_some ?_
          refine b_Unary ?_
          refine b_int ?_
          refine of_any (neg_int ?_)
          refine l_sliceL (i := 0) (hi' := some (-((1 : Nat) : Int))) D rfl lst_any .none (.int _ _) (by simp at hrvl hrow ⊢; omega) fun n₂ h₉ tk₉ D => ?_
          rw [slicePick_butLast _ 1 (Nat.le_refl _)] at D
          have er : ((rv' ++ [Value.int ((32 : UInt8).toNat : Int) tc]).toArray.toList.take ((rv' ++ [Value.int ((32 : UInt8).toNat : Int) tc]).toArray.size - 1)).toArray.toList = rv' := by simp
          rw [er] at D
          refine b_assign_Name ?_
          refine b_store D fun h₁₀ tk₁₀ D => ?_
          refine b_execs_nil ?_
          have D := D.pickN 2 [0]
          exact ⟨r'.length, by simp, n₂, rv', r', h₁₀, tk₁₀, (Str.ofString "row", .ref n₂) :: lsx, rfl, rfl, by simp at hrow; omega, by rw [← hst, strip_snoc32], hrv', D, rfl, hm⟩
        · rw [if_neg (by decide)]
          refine b_execs_cons ?_
          refine b_Expr ?_ (by kernel_rfl) (by kernel_rfl)
          refine b_CallO ?_
          refine b_local D hm ?_
          refine l_methL (i := 3) D rfl PySem.F.slot_list_append PySem.F.type_list_append ?_
          dsimp only
          refine b_cwB ?_
          refine b_args ?_
          refine b_local D hr ?_
          refine b_args_nil ?_
          refine l_appendL (i := 3) D rfl (by unfold refsL; rw [List.length_map]; omega) fun h₅ tk₅ D => ?_
          refine ⟨(by nofun), b_execs_nil ?_⟩
          have er : refsL ml ++ [Value.ref r] = refsL (ml ++ [(r, row)]) := by unfold refsL; rw [List.map_append]; rfl
          rw [er] at D
          have D := D.say (i := 0) (P := lstP rv) (P' := ilP (ofB row)) rfl fun o _ h => ⟨rv, hrv, h⟩
          have D := D.perm (l' := (it₂, litP la (i + 1)) :: (la, lstP (refsL R')) :: (mm, lstP (refsL (ml ++ [(r, row)]))) :: (rowsL (R'.drop (i + 1)) ++ rowsL (ml ++ [(r, row)]))) (by
            have e : rowsL (ml ++ [(r, row)]) = rowsL ml ++ [(r, ilP (ofB row))] := by unfold rowsL; rw [List.map_append]; rfl
            rw [e, ← List.append_assoc]
            refine (List.Perm.swap _ _ _).trans (.cons _ ((List.Perm.swap _ _ _).trans (.cons _ ((List.Perm.swap _ _ _).trans (.cons _ (List.perm_append_singleton _ _).symm)))))
            )
          refine ⟨_, _, lsx, _, rfl, ⟨ml ++ [(r, row)], rfl, ?_, hm⟩, D⟩
          rw [List.map_append, htk, List.map_append, hml]
          show _ ++ [row] = _ ++ [stripF b]
          rw [← hst, hst']
    · rintro hx tk lsx l ⟨ml, rfl, hml, hm⟩ D
      refine b_execs_cons (b_Return_some ?_)
      refine b_local D hm ?_
      have hlr : (refsL R').length = R'.length := by unfold refsL; rw [List.length_map]
      rw [hlr, List.take_length] at hml
      rw [hlr, List.drop_length] at D
      have D := D.pickN 2 [1]
      exact k mm ml _ _ (by rw [hml, hall]) D.own D.step
end
end Mine
end

noncomputable section
set_option maxHeartbeats 1000000

namespace Mine
open PySem PySem.Calls PyProof.Rows PySem.W

noncomputable def cellP (v : Option Value) : Obj → Prop := fun o => o.data = .cell v
noncomputable def nsP (m : Str → Option Value) : Obj → Prop := fun o => ∃ es ep, o.data = .dict es ep ∧ StrKeys es ∧ ∀ name, nsFind es name = m name
noncomputable def rngP (n : Nat) : Obj → Prop := fun o => ∃ t u v, o = { cls := .type "range", dict := none, data := .fields #[.int 0 t, .int (n : Int) u, .int 1 v], slots := #[] }

theorem small_n {n : Nat} (hn : n ≤ 1000) : Builtin.Range.small 0 (n : Int) 1 = true := by
  unfold Builtin.Range.small Builtin.Range.rangeFitsLong Builtin.Range.rangeSize
  by_cases h0 : (0 : Int) < (n : Int)
  · simp [h0]; omega
  · simp [h0]; omega
theorem size_n {n : Nat} : Builtin.Range.rangeSize 0 (n : Int) 1 = (n : Int) := by
  unfold Builtin.Range.rangeSize
  rw [if_pos (by decide)]
  split
  · rw [Int.ediv_one]; omega
  · omega

section
variable {M : Model} {A : Around} {E : Value → Shared → Prop} {s : Shared} {env : Env}

theorem b_standIf {α : Type} {c : Prop} [Decidable c] {pos : Pos} {k : PUnit → Sem α} {Q : α → Shared → Prop} (h : wpB M A (k ()) Q E s) :
    wpB M A (if c then (standAt pos >>= k) else k ()) Q E s := by
  split
  · exact b_bind (b_standAt h)
  · exact h
theorem b_runOk {c : Code} {h : Option Value} {Q : Flow → Shared → Prop} (hc : codeB M A c (Fl Q) s) (hh : h = none) (hq : calm c = true := by rfl) : wpB M A (run c h) Q NoE s := by
  subst hh
  refine b_run (h := none) ?_ (by nofun) hq
  have e : A.mark none = A := by cases A; rfl
  rw [e]
  exact codeB_mono hc fun r s' hr => by cases r <;> exact hr

/-- a comprehension that raises nothing -/
theorem b_comprehension {e : Expr} {scope : Scope} {pos : Pos} {newAcc first : Sem Value} {gn : Comprehension} {gs : List Comprehension} {cl : List (Str × Addr)}
    {Q : Value → Shared → Prop}
    (hcl : clausesOf e = gn :: gs) (hs : ∀ x, foldedSetIterable gn.iter env x = pure x) (hclos : closureFor scope env = pure cl)
    (hkind : scope.kind = .function) (hnames : ∀ x ∈ scope.names, x.2 = .local → scope.names.lookup x.1 = some .local)
    (h : wpB M A first (fun x s₁ => wpB M A (pyIter x) (fun it s₂ => wpB M A newAcc (fun acc s₃ =>
      wpB M A (newFunctionEnv scope env.globals cl [] env.qual none .none (some env)) (fun cenv s₄ =>
        codeB M A (.compStart e 0 it acc { cenv with scope := relabel scope env }) (Fl fun _ s' => ∃ m, s'.heap.Ns cenv.locals m ∧ ∀ h', Heap.SameBut cenv.locals s'.heap h' → Q acc { s' with heap := h' }) s₄) NoE s₃) NoE s₂) NoE s₁) NoE s) :
    wpB M A (comprehension e scope env pos newAcc false first none) Q NoE s := by
  unfold comprehension
  rw [hclos, hcl]
  refine b_bind (b_mono h (fun x s₁ h₁ => b_bind (b_standAt (b_bind (b_of_eq (hs x) (b_bind (b_holding (b_mono h₁ (fun it s₂ h₂ =>
    b_standIf (b_bind (b_mono h₂ (fun acc s₃ h₃ => b_bind (b_pure (b_bind (b_mono h₃ (fun cenv s₄ h₄ => ?_) fun _ _ h' => h')))) fun _ _ h' => h')))
      fun _ _ h' => h'))))))) fun _ _ h' => h')
  dsimp only
  have hv : ∀ x ∈ (scope.names.filter fun x => (x.2 == .local || x.2 == .cell) && x.1 != (".0" : Str)).reverse, x.2 = .local →
      Env.kindOf { cenv with scope := relabel scope env } x.1 = some .local := fun x hx hl => lookup_relabel_local (hnames x (List.mem_filter.mp (List.mem_reverse.mp hx)).1 hl)
  refine b_holding (b_bind (b_attempt (b_holding (b_mono (b_runOk h₄ rfl) (fun f s' hr => ?_) fun _ _ z => z.elim))))
  obtain ⟨m, hn, hr⟩ := hr
  exact b_bind (b_holding (of_any (wpAny_comp_letGo (cenv := { cenv with scope := relabel scope env }) hkind _ s' m hv hn fun h' m' _ hs' => b_pure (hr h' hs'))))

theorem b_noted {α : Type} {m : Sem α} {pos : Pos} {Q : α → Shared → Prop} (h : wpB M A m Q NoE s) : wpB M A (m.onRaise fun x => do noteFrame x env; standAt pos) Q NoE s := b_onRaise' h
end

section
variable {prog : Program} {w : World} {A : Around} {s : Shared}
theorem codeB_compStart_list {elt target iter ifs rest scope pos it acc env} {Q : Flow → Shared → Prop}
    (h0 : codeB (model prog w) A (.compLoop (.ListComp elt (⟨target, iter, ifs, 0⟩ :: rest) scope pos) 0 it acc env) (Fl Q) s)
    (h : wpB (model prog w) A (pyIter it) (fun it' s' => codeB (model prog w) A (.compLoop (.ListComp elt (⟨target, iter, ifs, 0⟩ :: rest) scope pos) 0 it' acc env) (Fl Q) s') NoE s) :
    codeB (model prog w) A (.compStart (.ListComp elt (⟨target, iter, ifs, 0⟩ :: rest) scope pos) 0 it acc env) (Fl Q) s := by
  refine codeB_of_tree ?_
  show wpB _ _ ((compStart (.ListComp elt (⟨target, iter, ifs, 0⟩ :: rest) scope pos) 0 it acc env).onRaise (fun x => do noteFrame x env; standAt theWindowsPlace)) _ _ s
  refine b_up (b_noted ?_)
  unfold compStart
  show wpB _ _ (ask >>= _) _ _ s
  refine b_bind (of_any (wpAny_askSetting ?_))
  have fin : ∀ {it' s'}, codeB (model prog w) A (.compLoop (.ListComp elt (⟨target, iter, ifs, 0⟩ :: rest) scope pos) 0 it' acc env) (Fl Q) s' →
      wpB (model prog w) A (again (.compLoop (.ListComp elt (⟨target, iter, ifs, 0⟩ :: rest) scope pos) 0 it' acc env)) (fun fin s' => match fin with | .done f => (Fl Q) (.ok f) s' | .again c' => c'.quiet = true ∧ calm c' = true ∧ codeB (model prog w) A c' (Fl Q) s') NoE s' :=
    fun hx => b_pure ⟨rfl, rfl, hx⟩
  split
  · first
      | exact b_bind (b_pure (fin h0))
      | exact fin h0
  · first
      | exact b_bind (b_rule (b_bind (b_standAt (b_bind (b_mono h (fun it' s' h' => fin h') fun _ _ x => x)))))
      | (refine b_bind (b_rule ?_); show wpB _ _ (standAt iter.pos >>= _) _ _ s; exact b_bind (b_standAt (b_bind (b_mono h (fun it' s' h' => fin h') fun _ _ x => x))))

theorem codeB_compLoop_list {elt target iter : Expr} {scope : Scope} {pos : Pos} {it acc : Value} {env : Env} {Q : Flow → Shared → Prop} (I : Nat → Shared → Prop)
    (turn : ∀ n s, I n s → wpB (model prog w) A (pyNext it) (fun r s₁ => match r with
      | none => Q .next s₁
      | some v => wpB (model prog w) A (assign target env v) (fun _ s₂ => wpB (model prog w) A (eval elt env) (fun x s₃ =>
          wpB (model prog w) A (call (.builtin "list.append") [acc, x]) (fun _ s₄ => ∃ m, m < n ∧ I m s₄) NoE s₃) NoE s₂) NoE s₁) NoE s)
    (n : Nat) (h : I n s) (ht : ∀ v, letOwnedTupleGo target it v = pure () := by intro _; rfl) :
    codeB (model prog w) A (.compLoop (.ListComp elt [⟨target, iter, [], 0⟩] scope pos) 0 it acc env) (Fl Q) s := by
  refine codeB_loop' rfl rfl I (fun n s hI => ?_) n h
  show wpB _ _ ((compTurn (.ListComp elt [⟨target, iter, [], 0⟩] scope pos) 0 it acc env).onRaise (fun x => do noteFrame x env; theTreesLotGoes x)) _ _ s
  refine b_up (b_onRaise' ?_)
  rw [compTurn_list1]
  refine b_bind (b_standAt (b_bind (b_mono (turn n s hI) (fun r s₁ h₁ => ?_) fun _ _ h' => h')))
  cases r with
  | none => exact b_pure h₁
  | some v =>
    refine b_bind (b_of_eq (ht v) ?_)
    exact b_bind (b_mono h₁ (fun _ s₂ h₂ => b_bind (b_bind (b_mono h₂ (fun x s₃ h₃ => b_bind (b_mono h₃
      (fun _ s₄ h₄ => b_pure (b_pure (.inl ⟨rfl, h₄⟩))) fun _ _ h' => h')) fun _ _ h' => h'))) fun _ _ h' => h')
end

section
variable {prog : Program} {w : World} {A : Around} {E : Value → Shared → Prop} {base h₀ h : Heap} {l₀ l : List Item} {L : Addr} {g : Array GenState} {d : Drawn} {tk : Nat} {os : OsState} {ls : List (Str × Value)} {a : Addr} {cl : List (Str × Addr)} {s : Shared} {env : Env}
  {m : Str → Option Value} {i j : Nat} {x y : Addr} {P P' : Obj → Prop} {vs : List Value}

theorem Led.nsAt {C : Addr} {mC : Str → Option Value} (D : Led base h₀ l₀ L h m l) (hi : l[i]? = some (C, nsP mC)) : h.Ns C mC := by
  obtain ⟨o, ho, es, ep, r⟩ := D.at hi
  exact ⟨o, es, ep, ho, r⟩
theorem l_range {n : Nat} {t : Tok} {Q : Value → Shared → Prop} (D : Led base h₀ l₀ L h m l)
    (k : ∀ r h' tk', Led base h₀ l₀ L h' m ((r, rngP n) :: l) → Q (.ref r) ⟨h', g, d, tk', os⟩) : wpB (model prog w) A (call (.type "range") [.int (n : Int) t]) Q E ⟨h, g, d, tk, os⟩ :=
  of_any (call_range_1 (s := ⟨h, g, d, tk, os⟩) (k _ _ _ (D.push _ ⟨_, _, _, rfl⟩)))
theorem l_iterRange {n : Nat} {Q : Value → Shared → Prop} (D : Led base h₀ l₀ L h m l) (hi : l[i]? = some (x, rngP n)) (hn : n ≤ 1000)
    (k : ∀ it h' tk', Led base h₀ l₀ L h' m ((it, ritP n 0) :: l) → Q (.ref it) ⟨h', g, d, tk', os⟩) : wpB (model prog w) A (pyIter (.ref x)) Q E ⟨h, g, d, tk, os⟩ := by
  obtain ⟨o, ho, t, u, v, rfl⟩ := D.at hi
  refine of_any (wpAny_pyIter_range (s := ⟨h, g, d, tk, os⟩) ho (small_n hn) (k _ _ _ (D.push _ ?_)))
  show _ = _
  rw [size_n]
  simp
theorem l_iterSelf {n j : Nat} {Q : Value → Shared → Prop} (D : Led base h₀ l₀ L h m l) (hi : l[i]? = some (x, ritP n j)) (k : Q (.ref x) ⟨h, g, d, tk, os⟩) : wpB (model prog w) A (pyIter (.ref x)) Q E ⟨h, g, d, tk, os⟩ := by
  obtain ⟨o, ho, rfl⟩ := D.at hi
  exact of_any (wpAny_pyIter_rangeiter (s := ⟨h, g, d, tk, os⟩) ho k)

/-- [elt for x in range(n)] -/
theorem b_CompRange {elt iter : Expr} {xn : Str} {px : Pos} {scope : Scope} {pos : Pos} {Q : Value → Shared → Prop} (hh : A.handled = none)
    (hclos : closureFor scope env = pure cl) (hkind : scope.kind = .function) (hnames : scope.names.all (fun x => x.2 != .local || decide (scope.names.lookup x.1 = some .local)) = true) (hcell : scope.names.all (fun x => x.2 != .cell) = true)
    (hx : scope.names.lookup xn = some .local)
    (h : wpB (model prog w) A (eval iter env) (fun v s₁ => ∃ (n : Nat) (r : Addr) (h : Heap) (tk : Nat) (l : List Item) (J : Nat → List Item → List Value → Prop), v = .ref r ∧ s₁ = ⟨h, g, d, tk, os⟩ ∧ n ≤ 100 ∧
      Led base h₀ l₀ L h m ((r, rngP n) :: l) ∧ J 0 l [] ∧
      (∀ i C t h tk l it acc vs, i < n → J i l vs → Led base h₀ l₀ L h m ((C, nsP (Vars [(xn, .int (i : Int) t)])) :: (it, ritP n (i + 1)) :: (acc, lstP vs) :: l) →
        wpB (model prog w) A (eval elt (compEnvC scope cl C env)) (fun y s' => ∃ h' tk' l', s' = ⟨h', g, d, tk', os⟩ ∧ J (i + 1) l' (vs ++ [y]) ∧
          Led base h₀ l₀ L h' m ((C, nsP (Vars [(xn, .int (i : Int) t)])) :: (it, ritP n (i + 1)) :: (acc, lstP vs) :: l')) NoE ⟨h, g, d, tk, os⟩) ∧
      (∀ h tk l acc vs, vs.length = n → J n l vs → Led base h₀ l₀ L h m ((acc, lstP vs) :: l) → Q (.ref acc) ⟨h, g, d, tk, os⟩)) NoE s)
    (hs : ∀ x, foldedSetIterable iter env x = pure x := by intro _; rfl) :
    wpB (model prog w) A (eval (.ListComp elt [⟨.Name xn px, iter, [], 0⟩] scope pos) env) Q NoE s := by
  rw [eval_ListComp]
  refine b_comprehension (gn := ⟨.Name xn px, iter, [], 0⟩) (gs := []) rfl hs hclos hkind (fun y hy hl => ?_) ?_
  · have := List.all_eq_true.mp hnames y hy
    rw [hl] at this
    simpa using this
  refine b_mono h (fun v s₁ h₁ => ?_) fun _ _ z => z
  obtain ⟨n, r, h, tk, l, J, rfl, rfl, hn, D, hJ, turn, fin⟩ := h₁
  refine l_iterRange (i := 0) D rfl (by omega) fun it h₂ tk₂ D => ?_
  refine of_any (wpAny_newList (s := ⟨h₂, g, d, tk₂, os⟩) ?_ (by rw [sizeLine_eq]; decide))
  have D := D.push (Obj.mk (.type "list") none (.seq ([] : List Value).toArray 0) #[]) (P := lstP []) ⟨0, rfl⟩
  generalize hacc : h₂.objs.size = acc at D
  dsimp only
  generalize h₂.push { cls := .type "list", data := .seq ([] : List Value).toArray } = h₃ at D
  refine of_any (wpAny_newFunctionEnv (s := ⟨h₃, g, d, tk₂, os⟩) (fun y hy e => ?_) (by intro y hy; cases hy) (fun h₄ hns hsb => ?_) hkind)
  · have := List.all_eq_true.mp hcell y hy
    rw [e] at this; exact absurd this (by decide)
  dsimp only at hns hsb ⊢
  have D : Led base h₀ l₀ L h₄ m ((h₃.objs.size, nsP (Vars [])) :: (it, ritP n 0) :: (acc, lstP []) :: l) := by
    obtain ⟨o, es, ep, ho, r⟩ := hns
    have D := (D.push (P := fun _ => True) (Obj.mk (.type "dict") none (.dict #[]) #[]) trivial).upd (i := 0) (P' := nsP (Vars [])) rfl hsb ho ⟨es, ep, r⟩
    exact D.pickN 4 [0, 2, 1]
  have eC : (newEnv scope h₃.objs.size env.globals cl env.qual none .none (some env) env.builtins).locals = h₃.objs.size := rfl
  generalize hC : h₃.objs.size = C at D
  have loop : ∀ tk, codeB (model prog w) A (.compLoop (.ListComp elt [⟨.Name xn px, iter, [], 0⟩] scope pos) 0 (.ref it) (.ref acc) (compEnvC scope cl C env)) (Fl fun _ s' => ∃ m, s'.heap.Ns C m ∧ ∀ h', Heap.SameBut C s'.heap h' → Q (.ref acc) { s' with heap := h' }) ⟨h₄, g, d, tk, os⟩ := by
    intro tk
    refine codeB_compLoop_list (fun k s => ∃ i hx tk l vs lsC, i ≤ n ∧ k = n - i ∧ s = ⟨hx, g, d, tk, os⟩ ∧ vs.length = i ∧ J i l vs ∧ (lsC = [] ∨ ∃ v, lsC = [(xn, v)]) ∧
      Led base h₀ l₀ L hx m ((C, nsP (Vars lsC)) :: (it, ritP n i) :: (acc, lstP vs) :: l)) (fun k s hI => ?_) n ⟨0, h₄, tk, l, [], [], Nat.zero_le _, rfl, rfl, rfl, hJ, .inl rfl, D⟩
    obtain ⟨i, hx', tk, l, vs, lsC, hi, rfl, rfl, hvl, hJ, hlsC, D⟩ := hI
    by_cases hlt : i < n
    · have D := D.pickN 2 [1, 0]
      refine (nexts_range hh it n).item _ _ _ _ _ _ _ _ _ _ _ _ _ hlt trivial D fun v h' tk' hv D => ?_
      obtain ⟨t, rfl⟩ := hv
      have D := D.pickN 2 [1, 0]
      refine b_assign_Name ?_
      have hns := D.nsAt (i := 0) rfl
      refine of_any (wpAny_storeName_local (env := compEnvC scope cl C env) (s := ⟨h', g, d, tk', os⟩) (lookup_relabel_local hx) hns (fun h'' hn' hs' => ?_) (by simp [compEnvC, relabel, hkind]))
      have D : Led base h₀ l₀ L h'' m ((C, nsP (Vars [(xn, .int (i : Int) t)])) :: (it, ritP n (i + 1)) :: (acc, lstP vs) :: l) := by
        obtain ⟨o, es, ep, ho, r1, r2, r3⟩ := hn'
        refine D.upd (i := 0) rfl hs' ho ⟨es, ep, r1, r2, fun name => ?_⟩
        rw [r3 name]
        rcases hlsC with rfl | ⟨v, rfl⟩ <;> by_cases e : name = xn
        · subst e; simp [Vars, List.lookup_cons]
        · simp [Vars, List.lookup_cons, e, beq_false_of_ne e]
        · subst e; simp [Vars, List.lookup_cons]
        · simp [Vars, List.lookup_cons, e, beq_false_of_ne e]
      refine b_mono (turn i C t h'' _ l it acc vs hlt hJ D) (fun y s' hy => ?_) fun _ _ z => z
      obtain ⟨h₅, tk₅, l', rfl, hJ', D⟩ := hy
      refine l_appendL (i := 2) D rfl (by omega) fun h₆ tk₆ D => ?_
      exact ⟨n - (i + 1), by omega, i + 1, h₆, tk₆, l', vs ++ [y], _, hlt, rfl, rfl, by simp [hvl], hJ', .inr ⟨_, rfl⟩, D⟩
    · obtain rfl : i = n := Nat.le_antisymm hi (Nat.not_lt.mp hlt)
      have D := D.pickN 2 [1, 0]
      refine (nexts_range hh it i).done _ _ _ _ _ _ _ _ _ _ _ _ trivial D fun h' tk' D => ?_
      refine ⟨_, D.nsAt (i := 0) rfl, fun h'' hs' => ?_⟩
      exact fin _ _ _ _ _ hvl hJ (D.extBut hs'.extBut)
  exact codeB_compStart_list (loop _) (l_iterSelf (i := 1) D rfl (loop _))
end
end Mine
end

noncomputable section
set_option maxHeartbeats 4000000

namespace Mine
open PySem PySem.Calls PyProof.Rows PySem.W Builtin

section
variable {prog : Program} {w : World} {A : Around} {E : Value → Shared → Prop} {base h₀ h : Heap} {l₀ l : List Item} {L : Addr} {g : Array GenState} {d : Drawn} {tk : Nat} {os : OsState} {m : Str → Option Value}

abbrev underM (A : Around) (C : Addr) (rest : List Value) : Around := A.under (.builtin "type.__call__" ⟨.ref C :: rest, []⟩)
theorem Room.make {A : Around} {n : Nat} {C : Addr} {rest : List Value} (R : Room A (n + 1)) : Room (underM A C rest) n :=
  ⟨by have h1 := R.depth; rw [depth_under_make]; omega, R.hand, by have h1 := R.units; rw [units_under_make]; omega⟩

/-- a class of the text is called, its __init__ a def -/
theorem b_make {C fI : Addr} {rest : List Value} {Q : Value → Shared → Prop} (S : Stat w base) (D : Led base h₀ l₀ L h m l) (hm : makesIn (KW w.params) C = true)
    (hi : findIn (KW w.params) (.ref C) "__init__" = some (some (.ref fI))) (hf : typeIn (KW w.params) (.ref fI) = some (.type "function"))
    (k : ∀ x dx h', Led base h₀ l₀ L h' m ((x, instP C dx) :: (dx, rowsP w.params []) :: l) →
      wpB (model prog w) (underM A C rest) (call (.ref fI) (.ref x :: rest)) (fun v s' => v = .none ∧ Q (.ref x) s') NoE ⟨h', g, d, tk, os⟩) :
    wpB (model prog w) A (call (.ref C) rest) Q NoE ⟨h, g, d, tk, os⟩ := by
  have X := S.here D.stay
  have Y := makes_of (M := model prog w) X hm
  have Y' := Y
  obtain ⟨⟨oc, od, cd, sl, hC, e1, e2, e4⟩, made, base', self, top, callS, typ⟩ := Y
  refine b_call (codeB_of_tree ?_)
  show wpB _ A.in1 (callAny (.ref C) ⟨rest, []⟩) _ _ _
  simp only [callAny]
  refine b_bind (of_any (wpAny_load (s := ⟨h, g, d, tk, os⟩) hC ?_))
  dsimp only
  show wpB _ _ (callAny.viaDunder (.ref C) _) _ _ _
  unfold callAny.viaDunder
  refine b_bind (of_any (callS.here ?_))
  dsimp only
  rw [tc_bind]
  refine b_bind (b_pure (b_bind (b_pure ?_)))
  refine b_pure (a := Fin.again (.call (.builtin "type.__call__") ⟨.ref C :: rest, []⟩)) ⟨rfl, rfl, codeB_of_tree ?_⟩
  show wpB _ A.in1 (do checkBuiltinCall "type.__call__" ⟨.ref C :: rest, []⟩; again (.builtin "type.__call__" ⟨.ref C :: rest, []⟩)) _ _ _
  refine b_bind (of_any (check_slot tc_kind tc_split typ (tc_args _ _ _) ?_))
  refine b_pure (a := Fin.again (.builtin "type.__call__" ⟨.ref C :: rest, []⟩)) ⟨Code.quiet_builtin _ (by decide +kernel), by show (!lenders.contains "type.__call__") = true; decide +kernel, codeB_builtin entry_typeCall ?_⟩
  unfold Builtin.«type.__call__»
  have hmr : Looks (model prog w) h (mroOf (.ref C)) cd.mro := ((Looks.ld (part := none) hC).andThen .now).andThen .now
  dsimp only
  have hne : (Value.ref C == Value.type "type") = false := rfl
  rw [hne]
  simp only [Bool.false_eq_true, if_false]
  refine b_bind (of_any (hmr.here ?_))
  rw [e4]
  simp only [Bool.false_eq_true, if_false]
  refine b_bind (of_any (made.here ?_))
  dsimp only
  refine b_bind (b_pure (b_bind (b_holding (of_any (wpAny_call ?_)))))
  refine codeAny_mono (new_K (R := fun r s' => r = .ok (.ret (.ref (h.objs.size + 1))) ∧ s' = ⟨(h.push emptyDict).push (instObj C h.objs.size), g, d, tk, os⟩) Y' (looks_findIn X hi) (.inl rfl) ⟨rfl, rfl⟩) fun r s' hr => ?_
  obtain ⟨rfl, rfl⟩ := hr
  have k1 : ∀ b o, h.get? b = some o → ((h.push emptyDict).push (instObj C h.objs.size)).get? b = some o := fun b o e => Heap.get?_push_of_some _ (Heap.get?_push_of_some _ e)
  have D1 := (D.push emptyDict (P := rowsP w.params []) ⟨[], 0, .nil, rfl⟩).push (instObj C h.objs.size) (P := instP C h.objs.size) ⟨rfl, rfl, rfl⟩
  rw [Heap.size_push] at D1
  have hx : ((h.push emptyDict).push (instObj C h.objs.size)).get? (h.objs.size + 1) = some (instObj C h.objs.size) := by
    have := Heap.get?_push_size (o := instObj C h.objs.size) (h.push emptyDict) rfl
    rwa [Heap.size_push] at this
  have t1 : Looks (model prog w) ((h.push emptyDict).push (instObj C h.objs.size)) (typeOf (.ref (h.objs.size + 1))) (.ref C) := (Looks.ld hx).andThen .now
  have s1 := self.keeps k1
  have i1 := (looks_findIn (M := model prog w) X hi).keeps k1
  have b1 := (bind_fn (M := model prog w) X (.ref (h.objs.size + 1)) hf).keeps k1
  have ii : Looks (model prog w) ((h.push emptyDict).push (instObj C h.objs.size)) (isInstance (.ref (h.objs.size + 1)) (.ref C)) true := t1.andThen s1
  refine b_bind (of_any (ii.here ?_))
  simp only [Bool.not_true, Bool.false_eq_true, if_false]
  refine b_bind (b_holding ?_)
  simp only [callSpecial?]
  have sp : Looks (model prog w) ((h.push emptyDict).push (instObj C h.objs.size)) (specialOf (.ref (h.objs.size + 1)) "__init__") (some (.ref fI)) := t1.andThen i1
  refine b_bind (of_any (sp.here ?_))
  dsimp only
  refine b_holding ?_
  refine b_bind (of_any (b1.here ?_))
  dsimp only
  refine b_bind (b_mono (k (h.objs.size + 1) h.objs.size _ D1) (fun v s' hv => ?_) fun _ _ z => z.elim)
  obtain ⟨rfl, hQ⟩ := hv
  refine b_pure ?_
  dsimp only
  simp only [bne_self_eq_false, Bool.false_eq_true, if_false]
  exact b_pure hQ
end
end Mine
end

noncomputable section
set_option maxHeartbeats 4000000

namespace Mine
open PySem PySem.Calls PyProof.Rows PySem.W

theorem pu1 (a : Value) : putRow (Str.ofString "size") a [] = [(Str.ofString "size", a)] := by kernel_rfl
theorem pu2 (a b : Value) : putRow (Str.ofString "out") b [(Str.ofString "size", a)] = [(Str.ofString "size", a), (Str.ofString "out", b)] := by kernel_rfl
theorem pu3 (a b c : Value) : putRow (Str.ofString "waiting") c [(Str.ofString "size", a), (Str.ofString "out", b)] = [(Str.ofString "size", a), (Str.ofString "out", b), (Str.ofString "waiting", c)] := by kernel_rfl
theorem pu4 (a b c d : Value) : putRow (Str.ofString "enabled") d [(Str.ofString "size", a), (Str.ofString "out", b), (Str.ofString "waiting", c)] = [(Str.ofString "size", a), (Str.ofString "out", b), (Str.ofString "waiting", c), (Str.ofString "enabled", d)] := by kernel_rfl
theorem pu5 (a b c d e : Value) : putRow (Str.ofString "line") e [(Str.ofString "size", a), (Str.ofString "out", b), (Str.ofString "waiting", c), (Str.ofString "enabled", d)] = [(Str.ofString "size", a), (Str.ofString "out", b), (Str.ofString "waiting", c), (Str.ofString "enabled", d), (Str.ofString "line", e)] := by kernel_rfl
theorem pu6 (a b c d e f : Value) : putRow (Str.ofString "divisor") f [(Str.ofString "size", a), (Str.ofString "out", b), (Str.ofString "waiting", c), (Str.ofString "enabled", d), (Str.ofString "line", e)] = [(Str.ofString "size", a), (Str.ofString "out", b), (Str.ofString "waiting", c), (Str.ofString "enabled", d), (Str.ofString "line", e), (Str.ofString "divisor", f)] := by kernel_rfl
theorem pu7 (a b c d e f i : Value) : putRow (Str.ofString "lost") i [(Str.ofString "size", a), (Str.ofString "out", b), (Str.ofString "waiting", c), (Str.ofString "enabled", d), (Str.ofString "line", e), (Str.ofString "divisor", f)] = [(Str.ofString "size", a), (Str.ofString "out", b), (Str.ofString "waiting", c), (Str.ofString "enabled", d), (Str.ofString "line", e), (Str.ofString "divisor", f), (Str.ofString "lost", i)] := by kernel_rfl
theorem pu8 (a b c d e f i j : Value) : putRow (Str.ofString "sent") j [(Str.ofString "size", a), (Str.ofString "out", b), (Str.ofString "waiting", c), (Str.ofString "enabled", d), (Str.ofString "line", e), (Str.ofString "divisor", f), (Str.ofString "lost", i)] = [(Str.ofString "size", a), (Str.ofString "out", b), (Str.ofString "waiting", c), (Str.ofString "enabled", d), (Str.ofString "line", e), (Str.ofString "divisor", f), (Str.ofString "lost", i), (Str.ofString "sent", j)] := by kernel_rfl
theorem pc1 (a : Value) : putRow (Str.ofString "uart") a [] = [(Str.ofString "uart", a)] := by kernel_rfl
theorem pc2 (a b : Value) : putRow (Str.ofString "size") b [(Str.ofString "uart", a)] = [(Str.ofString "uart", a), (Str.ofString "size", b)] := by kernel_rfl
theorem pc3 (a b c : Value) : putRow (Str.ofString "ready") c [(Str.ofString "uart", a), (Str.ofString "size", b)] = [(Str.ofString "uart", a), (Str.ofString "size", b), (Str.ofString "ready", c)] := by kernel_rfl
theorem pc4 (a b c d : Value) : putRow (Str.ofString "line") d [(Str.ofString "uart", a), (Str.ofString "size", b), (Str.ofString "ready", c)] = [(Str.ofString "uart", a), (Str.ofString "size", b), (Str.ofString "ready", c), (Str.ofString "line", d)] := by kernel_rfl

theorem makes_156 (P : Params) : makesIn (KW P) 156 = true := by kernel_rfl
theorem makes_218 (P : Params) : makesIn (KW P) 218 = true := by kernel_rfl
theorem init_156 (P : Params) : findIn (KW P) (.ref 156) "__init__" = some (some (.ref 69)) := by kernel_rfl
theorem init_218 (P : Params) : findIn (KW P) (.ref 218) "__init__" = some (some (.ref 180)) := by kernel_rfl
theorem fun_69 (P : Params) : typeIn (KW P) (.ref 69) = some (.type "function") := by kernel_rfl
theorem fun_180 (P : Params) : typeIn (KW P) (.ref 180) = some (.type "function") := by kernel_rfl
theorem keep_156 (P : Params) : keepIn (KW P) (.ref 156) = true := by kernel_rfl
theorem keep_218 (P : Params) : keepIn (KW P) (.ref 218) = true := by kernel_rfl
theorem glob_Uart (P : Params) : nsIn (KW P) mainGlobals (Str.ofString "Uart") = some (some (.ref 156)) := by kernel_rfl

section
variable {prog : Program} {w : World} {A : Around} {E : Value → Shared → Prop} {base h₀ h : Heap} {l₀ l : List Item} {L : Addr} {g : Array GenState} {d : Drawn} {tk : Nat} {os : OsState} {m : Str → Option Value} {a : Addr}

/-- a call of a def of the text, some of its parameters with defaults -/
theorem b_callKd {args : List Value} {binds : List (Str × Value)} {Q : Value → Shared → Prop} (S : Stat w base) (O : Own base h l) (hg : fnGood w.params a = true) (hroom : A.depth < recursionLimit)
    (hb : ∀ S, peek (KW w.params) S (bindArgs (fdK w.params a) ⟨args, []⟩) = some binds) (hloc : (binds.all fun x => decide ((fdK w.params a).scope.names.lookup x.1 = some .local)) = true)
    (k : ∀ h₁ tk₁, Led base h l h.objs.size h₁ (Vars binds.reverse) l →
      wpB (model prog w) (A.deeper (envK w.params a h.objs.size [])) (execs (bodyK w.params a) (envK w.params a h.objs.size [])) (fun f s' => Q (match f with | .ret v => v | _ => .none) s') NoE ⟨h₁, g, d, tk₁, os⟩) :
    wpB (model prog w) A (call (.ref a) args) Q NoE ⟨h, g, d, tk, os⟩ := by
  have X := S.here O.stay
  unfold fnGood at hg
  split at hg
  · rename_i cc od fd osl ho
    simp only [Bool.and_eq_true, Bool.not_eq_true', beq_iff_eq, List.isEmpty_iff] at hg
    obtain ⟨⟨⟨⟨⟨⟨⟨⟨h1, h2⟩, h3⟩, h4⟩, h5⟩, h6⟩, h7⟩, h8⟩, h9⟩ := hg
    have hfd : fdK w.params a = fd := by unfold fdK; rw [ho]
    have hbody : fd.body = .stmts (bodyK w.params a) := by
      unfold bodyK
      rw [hfd]
      revert h9
      cases fd.body <;> simp
    rw [hfd] at hb hloc
    have henv : callEnv fd h.objs.size a = envK w.params a h.objs.size [] := by
      unfold envK
      rw [hfd]
      show ({ scope := fd.scope, locals := h.objs.size, globals := fd.globals, cells := fd.closure, qual := fd.qualname ++ ".<locals>.", func := some a, code := fd.code, frame := some h.objs.size, builtins := fd.builtins } : Env) = _
      rw [h6, h7, h8]
    refine b_calls (b_call_fn (s := ⟨h, g, d, tk, os⟩) hroom (X _ _ ho) rfl (S.lim.keeps O.stay) (codeRec_of X h1) hbody (kp_binds X hb) (fun x hx => ?_) (locs hloc) (fun h₁ hn hs => ?_) h3 h4 h5)
    · have := List.all_eq_true.mp h2 x hx
      simpa using this
    · have D := Led.enter O hn hs
      rw [henv]
      exact k h₁ _ D
  · cases hg

theorem uart_init {x dx : Addr} {t : Tok} {Q : Value → Shared → Prop} (S : Stat w base) (R : Room A 1)
    (O : Own base h [(x, instP 156 dx), (dx, rowsP w.params [])])
    (k : ∀ ao aw T h' tk', Own base h' [(x, instP 156 dx), (dx, rowsP w.params (uartRows T ao aw)), (ao, baP #[]), (aw, baP #[])] →
      Step h h' [(x, instP 156 dx), (dx, rowsP w.params [])] [(x, instP 156 dx), (dx, rowsP w.params (uartRows T ao aw)), (ao, baP #[]), (aw, baP #[])] → Q .none ⟨h', g, d, tk', os⟩) :
    wpB (model prog w) A (call (.ref 69) [.ref x, .int 4 t]) Q NoE ⟨h, g, d, tk, os⟩ := by
  refine b_callKd (a := 69) S O (by kernel_rfl) R.lim (binds := [(Str.ofString "self", .ref x), (Str.ofString "size", .int 4 t)]) (by intro S; kernel_rfl) (by kernel_rfl) fun h₁ tk₁ D => ?_
  rw [body_69]
  refine b_execs_cons ?_
  refine b_If ?_
  refine b_isTrue_Compare ?_
  refine b_local D rfl ?_
  refine b_int ?_
  refine of_any (lt_int ?_)
  refine b_truthy_bool ?_
  rw [if_neg (by decide)]
  refine b_execs_nil ?_
  -- self.size = size
  refine b_execs_cons ?_
  refine b_Assign ?_ (by kernel_rfl) (by kernel_rfl)
  refine b_local D rfl ?_
  refine b_assign_Attribute ?_
  refine b_local D rfl ?_
  refine b_set 0 1 S D rfl rfl (by kernel_rfl) (by simp) fun h₂ tk₂ D => ?_
  rw [pu1] at D
  -- self.out = bytearray()
  refine b_execs_cons ?_
  refine b_Assign ?_ (by kernel_rfl) (by kernel_rfl)
  refine b_callBlt S D PyProof.Rows.Boot.bytearray ?_
  refine b_args_nil ?_
  refine l_make D fun ao h₃ tk₃ D => ?_
  refine b_assign_Attribute ?_
  refine b_local D rfl ?_
  refine b_set 1 2 S D rfl rfl (by kernel_rfl) (by simp) fun h₄ tk₄ D => ?_
  rw [pu2] at D
  -- self.waiting = bytearray()
  refine b_execs_cons ?_
  refine b_Assign ?_ (by kernel_rfl) (by kernel_rfl)
  refine b_callBlt S D PyProof.Rows.Boot.bytearray ?_
  refine b_args_nil ?_
  refine l_make D fun aw h₅ tk₅ D => ?_
  refine b_assign_Attribute ?_
  refine b_local D rfl ?_
  refine b_set 2 3 S D rfl rfl (by kernel_rfl) (by simp) fun h₆ tk₆ D => ?_
  rw [pu3] at D
  refine b_execs_cons ?_
  refine b_Assign ?_ (by kernel_rfl) (by kernel_rfl)
  refine b_int ?_
  refine b_assign_Attribute ?_
  refine b_local D rfl ?_
  refine b_set 2 3 S D rfl rfl (by kernel_rfl) (by simp) fun h₇ tk₇ D => ?_
  rw [pu4] at D
  refine b_execs_cons ?_
  refine b_Assign ?_ (by kernel_rfl) (by kernel_rfl)
  refine b_int ?_
  refine b_assign_Attribute ?_
  refine b_local D rfl ?_
  refine b_set 2 3 S D rfl rfl (by kernel_rfl) (by simp) fun h₈ tk₈ D => ?_
  rw [pu5] at D
  refine b_execs_cons ?_
  refine b_Assign ?_ (by kernel_rfl) (by kernel_rfl)
  refine b_int ?_
  refine b_assign_Attribute ?_
  refine b_local D rfl ?_
  refine b_set 2 3 S D rfl rfl (by kernel_rfl) (by simp) fun h₉ tk₉ D => ?_
  rw [pu6] at D
  refine b_execs_cons ?_
  refine b_Assign ?_ (by kernel_rfl) (by kernel_rfl)
  refine b_bool ?_
  refine b_assign_Attribute ?_
  refine b_local D rfl ?_
  refine b_set 2 3 S D rfl rfl (by kernel_rfl) (by simp) fun h₁₀ tk₁₀ D => ?_
  rw [pu7] at D
  refine b_execs_cons ?_
  refine b_Assign ?_ (by kernel_rfl) (by kernel_rfl)
  refine b_bool ?_
  refine b_assign_Attribute ?_
  refine b_local D rfl ?_
  refine b_set 2 3 S D rfl rfl (by kernel_rfl) (by simp) fun h₁₁ tk₁₁ D => ?_
  rw [pu8] at D
  refine b_execs_nil ?_
  have D := D.pick [2, 3, 1, 0]
  exact k ao aw (fun i => match i with | 0 => t | 1 => tk₆ | 2 => tk₇ | _ => tk₈) _ _ D.own D.step

theorem con_init {x dx u : Addr} {t : Tok} {Q : Value → Shared → Prop} (S : Stat w base) (R : Room A 1)
    (O : Own base h [(x, instP 218 dx), (dx, rowsP w.params [])])
    (k : ∀ ar al h' tk', Own base h' [(x, instP 218 dx), (dx, rowsP w.params (conRows (fun _ => t) u ar al)), (ar, baP #[]), (al, baP #[])] →
      Step h h' [(x, instP 218 dx), (dx, rowsP w.params [])] [(x, instP 218 dx), (dx, rowsP w.params (conRows (fun _ => t) u ar al)), (ar, baP #[]), (al, baP #[])] → Q .none ⟨h', g, d, tk', os⟩) :
    wpB (model prog w) A (call (.ref 180) [.ref x, .ref u, .int 40 t]) Q NoE ⟨h, g, d, tk, os⟩ := by
  refine b_callKd (a := 180) S O (by kernel_rfl) R.lim (binds := [(Str.ofString "self", .ref x), (Str.ofString "uart", .ref u), (Str.ofString "size", .int 40 t)]) (by intro S; kernel_rfl) (by kernel_rfl) fun h₁ tk₁ D => ?_
  rw [body_180]
  refine b_execs_cons ?_
  refine b_If ?_
  refine b_isTrue_Compare ?_
  refine b_local D rfl ?_
  refine b_int ?_
  refine of_any (lt_int ?_)
  refine b_truthy_bool ?_
  rw [if_neg (by decide)]
  refine b_execs_nil ?_
  refine b_execs_cons ?_
  refine b_Assign ?_ (by kernel_rfl) (by kernel_rfl)
  refine b_local D rfl ?_
  refine b_assign_Attribute ?_
  refine b_local D rfl ?_
  refine b_set 0 1 S D rfl rfl (by kernel_rfl) (by simp) fun h₂ tk₂ D => ?_
  rw [pc1] at D
  refine b_execs_cons ?_
  refine b_Assign ?_ (by kernel_rfl) (by kernel_rfl)
  refine b_local D rfl ?_
  refine b_assign_Attribute ?_
  refine b_local D rfl ?_
  refine b_set 0 1 S D rfl rfl (by kernel_rfl) (by simp) fun h₃ tk₃ D => ?_
  rw [pc2] at D
  refine b_execs_cons ?_
  refine b_Assign ?_ (by kernel_rfl) (by kernel_rfl)
  refine b_callBlt S D PyProof.Rows.Boot.bytearray ?_
  refine b_args_nil ?_
  refine l_make D fun ar h₄ tk₄ D => ?_
  refine b_assign_Attribute ?_
  refine b_local D rfl ?_
  refine b_set 1 2 S D rfl rfl (by kernel_rfl) (by simp) fun h₅ tk₅ D => ?_
  rw [pc3] at D
  refine b_execs_cons ?_
  refine b_Assign ?_ (by kernel_rfl) (by kernel_rfl)
  refine b_callBlt S D PyProof.Rows.Boot.bytearray ?_
  refine b_args_nil ?_
  refine l_make D fun al h₆ tk₆ D => ?_
  refine b_assign_Attribute ?_
  refine b_local D rfl ?_
  refine b_set 2 3 S D rfl rfl (by kernel_rfl) (by simp) fun h₇ tk₇ D => ?_
  rw [pc4] at D
  refine b_execs_nil ?_
  have D := D.pick [2, 3, 1, 0]
  exact k ar al _ _ D.own D.step

/-- both made -/
theorem call_Uart {t : Tok} {Q : Value → Shared → Prop} (S : Stat w base) (R : Room A 2) (D : Led base h₀ l₀ L h m l)
    (k : ∀ x dx ao aw T h' tk', Led base h₀ l₀ L h' m ([(x, instP 156 dx), (dx, rowsP w.params (uartRows T ao aw)), (ao, baP #[]), (aw, baP #[])] ++ l) → Q (.ref x) ⟨h', g, d, tk', os⟩) :
    wpB (model prog w) A (call (.ref 156) [.int 4 t]) Q NoE ⟨h, g, d, tk, os⟩ := by
  refine b_make S D (makes_156 _) (init_156 _) (fun_69 _) fun x dx h' D => ?_
  have D : Led base h₀ l₀ L h' m ([(x, instP 156 dx), (dx, rowsP w.params [])] ++ l) := D
  exact uart_init S R.make D.own.left fun ao aw T h'' tk' O' S' => ⟨rfl, k x dx ao aw T h'' tk' (D.call O' S')⟩
theorem call_Console {u : Addr} {t : Tok} {Q : Value → Shared → Prop} (S : Stat w base) (R : Room A 2) (D : Led base h₀ l₀ L h m l)
    (k : ∀ x dx ar al h' tk', Led base h₀ l₀ L h' m ([(x, instP 218 dx), (dx, rowsP w.params (conRows (fun _ => t) u ar al)), (ar, baP #[]), (al, baP #[])] ++ l) → Q (.ref x) ⟨h', g, d, tk', os⟩) :
    wpB (model prog w) A (call (.ref 218) [.ref u, .int 40 t]) Q NoE ⟨h, g, d, tk, os⟩ := by
  refine b_make S D (makes_218 _) (init_218 _) (fun_180 _) fun x dx h' D => ?_
  have D : Led base h₀ l₀ L h' m ([(x, instP 218 dx), (dx, rowsP w.params [])] ++ l) := D
  exact con_init S R.make D.own.left fun ar al h'' tk' O' S' => ⟨rfl, k x dx ar al h'' tk' (D.call O' S')⟩
end
end Mine
end

noncomputable section
set_option maxHeartbeats 1000000

namespace Mine
open PySem PySem.Calls PyProof.Rows PySem.W

noncomputable def body262 : List Stmt := inner (topSt 13)
noncomputable def body267 : List Stmt := inner (topSt 14)
theorem body_262 (P : Params) : bodyK P 262 = body262 := by kernel_rfl
theorem body_267 (P : Params) : bodyK P 267 = body267 := by kernel_rfl

noncomputable def fnGoodC (P : Params) (a : Addr) : Bool := match (KW P).lookup a with
  | some ⟨_, _, .func fd, _⟩ => codeIn (KW P) fd.code fd.qualname && !fd.scope.isCoroutine && !fd.scope.isGenerator && fd.scope.kind == .function && fd.globals == mainGlobals && fd.closure.isEmpty && fd.builtins == builtinsNs &&
      (match fd.body with | .stmts _ => true | _ => false)
  | _ => false
noncomputable def namesK (P : Params) (a : Addr) : List (Str × NameKind) := (fdK P a).scope.names
noncomputable def pickV (names : List (Str × NameKind)) : List (Str × Value) → List (Str × Value) → List (Str × Value)
  | [], ls => ls
  | (n, v) :: r, ls => pickV names r (if names.lookup n = some .local then (n, v) :: ls else ls)
theorem bindL_vars (names : List (Str × NameKind)) : ∀ (b : List (Str × Value)) (ls : List (Str × Value)), bindL (fun n => names.lookup n) b (Vars ls) = Vars (pickV names b ls)
  | [], ls => rfl
  | (n, v) :: r, ls => by
    unfold bindL pickV
    split
    · rename_i h
      rw [← bindL_vars names r, vars_store]
    · rename_i h
      rw [← bindL_vars names r]
theorem lookup_of_mem {α : Type} : ∀ {l : List (Str × α)} {n : Str} {c : α}, (l.map (·.1)).Nodup → (n, c) ∈ l → l.lookup n = some c
  | (k, v) :: r, n, c, hn, h => by
    rw [List.map_cons, List.nodup_cons] at hn
    rw [List.lookup_cons]
    rcases List.mem_cons.mp h with e | h
    · cases e; simp
    · have : (n == k) = false := beq_false_of_ne fun e => hn.1 (e ▸ (List.mem_map_of_mem h : (n, c).1 ∈ r.map (·.1)))
      rw [this]; exact lookup_of_mem hn.2 h

section
variable {prog : Program} {w : World} {A : Around} {E : Value → Shared → Prop} {base h₀ h : Heap} {l₀ l : List Item} {L : Addr} {g : Array GenState} {d : Drawn} {tk : Nat} {os : OsState} {ls : List (Str × Value)} {m : Str → Option Value} {a : Addr} {cl : List (Str × Addr)} {i j : Nat} {x y : Addr} {env : Env}

/-- a call of a def of the text, some of its names cells -/
theorem b_callC {args : List Value} {binds : List (Str × Value)} {Q : Value → Shared → Prop} (S : Stat w base) (O : Own base h l) (hg : fnGoodC w.params a = true) (hroom : A.depth < recursionLimit)
    (hb : bindArgs (fdK w.params a) ⟨args, []⟩ = pure binds) (hloc : (binds.all fun x => decide ((namesK w.params a).lookup x.1 = some .local) || decide ((namesK w.params a).lookup x.1 = some .cell)) = true)
    (cns : List Str) (hcn : ∀ n, (cellsFrom n (namesK w.params a) []).map (·.1) = cns) (hnd : cns.Nodup)
    (k : ∀ h₁ tk₁, Led base h l h.objs.size h₁ (Vars (pickV (namesK w.params a) binds []))
        ((cellsFrom (h.objs.size + 1) (namesK w.params a) []).map (fun p => (p.2, cellP (bindC (fun n => (namesK w.params a).lookup n) binds (fun _ => none) p.1))) ++ l) →
      wpB (model prog w) (A.deeper (envK w.params a h.objs.size (cellsFrom (h.objs.size + 1) (namesK w.params a) []))) (execs (bodyK w.params a) (envK w.params a h.objs.size (cellsFrom (h.objs.size + 1) (namesK w.params a) [])))
        (fun f s' => Q (match f with | .ret v => v | _ => .none) s') NoE ⟨h₁, g, d, tk₁, os⟩) :
    wpB (model prog w) A (call (.ref a) args) Q NoE ⟨h, g, d, tk, os⟩ := by
  have X := S.here O.stay
  unfold fnGoodC at hg
  split at hg
  · rename_i cc od fd osl ho
    simp only [Bool.and_eq_true, Bool.not_eq_true', beq_iff_eq, List.isEmpty_iff] at hg
    obtain ⟨⟨⟨⟨⟨⟨⟨h1, h3⟩, h4⟩, h5⟩, h6⟩, h7⟩, h8⟩, h9⟩ := hg
    have hfd : fdK w.params a = fd := by unfold fdK; rw [ho]
    have hbody : fd.body = .stmts (bodyK w.params a) := by
      unfold bodyK
      rw [hfd]
      revert h9
      cases fd.body <;> simp
    have hnk : namesK w.params a = fd.scope.names := by unfold namesK; rw [hfd]
    rw [hnk] at hloc hcn k
    rw [hfd] at hb
    refine b_calls (codeB_call_function (s := ⟨h, g, d, tk, os⟩) hroom (X _ _ ho) rfl h3 h4 hbody (codeRec_of X h1) ?_)
    rw [hb, h7]
    refine b_pure (of_any (wpAny_newFunctionEnv_cells h5 (fun x hx => ?_) fun env he s' x => ?_))
    · have := List.all_eq_true.mp hloc x hx
      rw [Bool.or_eq_true, decide_eq_true_eq, decide_eq_true_eq] at this
      rcases this with h | h
      · exact .inl h
      · exact .inr ⟨h, PySem.W.cellsFrom_some _ _ _ (.inl h)⟩
    · have henv : env = envK w.params a h.objs.size (cellsFrom (h.objs.size + 1) fd.scope.names []) := by
        rw [he]
        unfold envK
        rw [hfd]
        show ({ scope := fd.scope, locals := h.objs.size, globals := fd.globals, cells := cellsFrom (h.objs.size + 1) fd.scope.names [], qual := fd.qualname ++ ".<locals>.", func := some a, code := fd.code, frame := some h.objs.size, builtins := fd.builtins } : Env) = _
        rw [h6, h8]
      have hloc' : env.locals = h.objs.size := by rw [he]; rfl
      have hcl : env.cells = cellsFrom (h.objs.size + 1) fd.scope.names [] := by rw [he]; rfl
      have hkd : env.kindOf = fun n => fd.scope.names.lookup n := by rw [he]; rfl
      rw [hloc', hcl, hkd] at x
      obtain ⟨⟨h', tk', rfl⟩, hns, hkeep, hfr⟩ := x.toInCall
      refine ⟨(S.lim.keeps O.stay).keeps hkeep, codeB_func ?_⟩
      rw [henv]
      refine k h' tk' ?_
      have hv : (fun _ => none : Str → Option Value) = Vars [] := rfl
      have hcs : ∀ p ∈ cellsFrom (h.objs.size + 1) fd.scope.names [], h'.IsCell p.2 (bindC (fun n => fd.scope.names.lookup n) binds (fun _ => none) p.1) ∧ h.objs.size < p.2 := fun p hp =>
        ⟨x.cell p.1 p.2 (lookup_of_mem (by rw [hcn]; exact hnd) hp), x.above p.1 p.2 hp⟩
      have hmm : ∀ y ∈ ((cellsFrom (h.objs.size + 1) fd.scope.names []).map (fun p => ((p.2, cellP (bindC (fun n => fd.scope.names.lookup n) binds (fun _ => none) p.1)) : Item))).map (·.1), h.objs.size < y := fun y hy => by
        obtain ⟨q, hq, rfl⟩ := List.mem_map.mp hy
        obtain ⟨p, hp, rfl⟩ := List.mem_map.mp hq
        exact (hcs p hp).2
      refine ⟨?_, O.lowH, Nat.le_refl _, ⟨fun b o e => hkeep _ _ (O.stay b o e), Nat.le_trans O.lowH (Nat.le_of_lt hns.lt), fun p hp => ?_, fun p hp => ?_, ?_⟩, ?_, ⟨fun b o e _ => hkeep b o e, fun y hy => ?_, Nat.le_of_lt hns.lt⟩⟩
      · rw [← bindL_vars, ← hv]; exact hns
      · rcases List.mem_append.mp hp with hp | hp
        · obtain ⟨q, hq, rfl⟩ := List.mem_map.mp hp
          exact (hcs q hq).1
        · obtain ⟨o, ho, hP⟩ := O.get p hp
          exact ⟨o, hkeep _ _ ho, hP⟩
      · rcases List.mem_append.mp hp with hp | hp
        · exact Nat.le_trans O.lowH (Nat.le_of_lt (hmm p.1 (List.mem_map_of_mem hp)))
        · exact O.new p hp
      · rw [List.map_append, List.nodup_append]
        refine ⟨?_, O.nd, fun y hy z hz e => ?_⟩
        · rw [List.map_map]
          exact List.pairwise_map.mpr x.apart
        · subst e
          exact absurd (O.lt hz) (Nat.not_lt.mpr (Nat.le_of_lt (hmm y hy)))
      · rw [List.map_append, List.mem_append]
        rintro (q | q)
        · exact absurd (hmm _ q) (Nat.lt_irrefl _)
        · exact absurd (O.lt q) (Nat.lt_irrefl _)
      · rw [List.map_append, List.mem_append] at hy
        rcases hy with q | q
        · exact .inr (Nat.le_of_lt (hmm y q))
        · exact .inl q
  · cases hg

/-! names of any frame -/
theorem g_cell {nm : Str} {pos : Pos} {c : Addr} {v : Value} {Q : Value → Shared → Prop} (D : Led base h₀ l₀ L h m l) (hi : l[i]? = some (c, cellP (some v))) (hc : env.cells.lookup nm = some c) (k : Q v ⟨h, g, d, tk, os⟩)
    (hk : env.scope.kind = .function) (hl : env.kindOf nm = some .cell) (hd : (nm == ("__debug__" : Str)) = false := by decide) :
    wpB (model prog w) A (eval (.Name nm pos) env) Q E ⟨h, g, d, tk, os⟩ := by
  obtain ⟨o, ho, hp⟩ := D.at hi
  exact b_Name (of_any (wpAny_loadName_cell (s := ⟨h, g, d, tk, os⟩) hk hl hc ⟨o, ho, hp⟩ k)) hd
theorem g_setCell {nm : Str} {c : Addr} {v₀ : Option Value} {v : Value} {Q : Unit → Shared → Prop} (D : Led base h₀ l₀ L h m l) (hi : l[i]? = some (c, cellP v₀)) (hc : env.cells.lookup nm = some c)
    (k : ∀ h' tk', Led base h₀ l₀ L h' m (l.set i (c, cellP (some v))) → Q () ⟨h', g, d, tk', os⟩)
    (hk : env.scope.kind = .function) (hl : env.kindOf nm = some .cell) : wpB (model prog w) A (storeName env nm v) Q E ⟨h, g, d, tk, os⟩ := by
  obtain ⟨o, ho, hp⟩ := D.at hi
  refine of_any (wpAny_storeName_cell (s := ⟨h, g, d, tk, os⟩) hk hl hc ⟨o, ho, hp⟩ fun h' hc' hs => ?_)
  obtain ⟨o', ho', hd'⟩ := hc'
  exact k _ _ (D.upd hi hs ho' hd')
theorem g_local {nm : Str} {pos : Pos} {C : Addr} {lsC : List (Str × Value)} {v : Value} {Q : Value → Shared → Prop} (D : Led base h₀ l₀ L h m l) (hi : l[i]? = some (C, nsP (Vars lsC))) (hC : env.locals = C) (hv : lsC.lookup nm = some v) (k : Q v ⟨h, g, d, tk, os⟩)
    (hk : env.scope.kind = .function) (hl : env.kindOf nm = some .local) (hd : (nm == ("__debug__" : Str)) = false := by decide) :
    wpB (model prog w) A (eval (.Name nm pos) env) Q E ⟨h, g, d, tk, os⟩ :=
  b_Name (of_any (wpAny_loadName_local (s := ⟨h, g, d, tk, os⟩) hk hl (hC ▸ D.nsAt hi) hv k)) hd
theorem g_global {nm : Str} {pos : Pos} {v : Value} {Q : Value → Shared → Prop} (S : Stat w base) (D : Led base h₀ l₀ L h m l) (hv : nsIn (KW w.params) mainGlobals nm = some (some v)) (k : Q v ⟨h, g, d, tk, os⟩)
    (hk : env.scope.kind = .function) (hg : env.globals = mainGlobals) (hl : env.kindOf nm = some .globalImplicit) (hd : (nm == ("__debug__" : Str)) = false := by decide) :
    wpB (model prog w) A (eval (.Name nm pos) env) Q E ⟨h, g, d, tk, os⟩ := by
  obtain ⟨mg, hmg⟩ := S.g
  exact of_any (Name_function_global hk hl (loadGlobal_global (s := ⟨h, g, d, tk, os⟩) (hg ▸ hmg.keeps D.stay) (mg_of S.X hmg hv) k) hd)

/-! bytes in a list: equality -/
end
end Mine
end

noncomputable section
set_option maxHeartbeats 1000000

universe u
namespace Mine
open PySem PySem.Calls PyProof.Rows PySem.W Builtin

theorem slot_bjoin : Slot "bytes" "join" "bytes.join" :=
  .of (owner := "bytes") (n := "join") (by rw [typeLookup_type, builtinLookup_eq_fast]; kernel_rfl) (by decide +kernel) (by decide +kernel) (by decide +kernel)
    (by first | exact .inl (by decide +kernel) | exact .inr (by decide +kernel)) (by rw [isSubtype_type]; kernel_rfl)
theorem entry_bjoin : entryFor table "bytes.join" = some Builtin.«bytes.join» := by first | exact entryFor_of_fast (by kernel_rfl) | exact entryFor_of_tree (by kernel_rfl)
theorem args_bjoin (a b : Value) : argsOk "bytes.join" ⟨[a, b], []⟩ := by unfold argsOk; kernel_rfl
theorem type_bjoin : typeOf (.builtin "bytes.join") = pure (.type "method_descriptor") := by show builtinType _ = _; rw [builtinType_eq_fast]; kernel_rfl

section
variable {M : Model} {prog : Program} {w : World} {A : Around} {E : Value → Shared → Prop} {s : Shared}
theorem wpAny_forRange {β : Type} (f : Nat → β → Sem (ForInStep β)) (I : Nat → β → Prop) (Q : β → Shared → Prop) :
    ∀ (k i : Nat) (b : β), I i b → (∀ j b (Q' : ForInStep β → Shared → Prop), i ≤ j → j < i + k → I j b → (∀ b', I (j + 1) b' → Q' (.yield b') s) → wpAny M A (f j b) Q' E s) → (∀ b, I (i + k) b → Q b s) →
      wpAny M A (forIn (List.range' i k 1) b f) Q E s
  | 0, i, b, hI, _, hq => by
    rw [List.range'_zero, List.forIn_nil]
    exact wpAny_pure (hq b hI)
  | k + 1, i, b, hI, turn, hq => by
    rw [List.range'_succ, List.forIn_cons]
    refine wpAny_bind (turn i b _ (Nat.le_refl _) (by omega) hI fun b' hI' => ?_)
    exact wpAny_forRange f I Q k (i + 1) b' hI' (fun j b Q' h1 h2 => turn j b Q' (by omega) (by omega)) (fun b hb => hq b (by rwa [show i + (k + 1) = i + 1 + k by omega]))

theorem wpAny_letGo {keep : List Value} {Q : Unit → Shared → Prop} (h : Q () s) : ∀ vs : List Value, wpAny M A (PySem.letGo vs keep) Q E s
  | [] => wpAny_pure h
  | _ :: r => by
    unfold PySem.letGo
    exact wpAny_bind (wpAny_holding (wpAny_point (wpAny_letGo h r)))
theorem wpAny_joinLetGo {keep : List Value} {Q : Unit → Shared → Prop} (h : Q () s) : ∀ vs : List (Value × Option Value), (∀ p ∈ vs, p.2 = none) → wpAny M A (Bytes.joinLetGo vs keep) Q E s
  | [], _ => wpAny_pure h
  | (x, w) :: r, hn => by
    obtain rfl : w = none := hn (x, w) (List.mem_cons_self ..)
    unfold Bytes.joinLetGo
    first
      | exact wpAny_bind (wpAny_letGo (wpAny_joinLetGo h r fun p hp => hn p (List.mem_cons_of_mem _ hp)) _)
      | exact wpAny_bind (wpAny_pure (wpAny_bind (wpAny_letGo (wpAny_joinLetGo h r fun p hp => hn p (List.mem_cons_of_mem _ hp)) _)))

theorem join_match {motive : Array Value → Sort u} (items : Array Value) (h1 : (x : Value) → motive #[x]) (h2 : (x : Array Value) → motive x) (hne : items.size ≠ 1) : Bytes.joinM.match_1 motive items h1 h2 = h2 items := by
  unfold Bytes.joinM.match_1
  rw [dif_neg hne]
theorem joined_nil : ∀ (bs : List (List UInt8)) (i : Nat) (acc : Array UInt8), ((bs.map List.toArray).zipIdx i).foldl (fun out (p, i) => (if i > 0 then out ++ (#[] : Array UInt8) else out) ++ p) acc = acc ++ bs.flatten.toArray
  | [], _, acc => by simp
  | b :: r, i, acc => by
    rw [List.map_cons, List.zipIdx_cons, List.foldl_cons, joined_nil r]
    simp
theorem sizes_sum : ∀ (bs : List (List UInt8)) (n : Nat), (bs.map List.toArray).foldl (fun (x1 : Nat) (x2 : Array UInt8) => x1 + x2.size) n = n + bs.flatten.length
  | [], n => by simp
  | b :: r, n => by
    rw [List.map_cons, List.foldl_cons, sizes_sum r]
    simp; omega
theorem bytsAre_at {vs : List Value} {bs : List (List UInt8)} (h : BytsAre vs bs) : ∀ {i : Nat}, i < vs.length → ∃ b t, bs[i]? = some b ∧ vs[i]? = some (.bytes b.toArray t) := by
  induction h with
  | nil => intro i hi; exact absurd hi (Nat.not_lt_zero _)
  | cons b t r ih =>
    intro i hi
    cases i with
    | zero => exact ⟨b, t, rfl, rfl⟩
    | succ i => obtain ⟨c, u, h1, h2⟩ := ih (i := i) (by simpa using hi); exact ⟨c, u, by simpa using h1, by simpa using h2⟩
theorem join_tree {a : Addr} {o : Obj} {vs : List Value} {bs : List (List UInt8)} {t : Tok} {Q : Fin → Shared → Prop} (ho : s.heap.get? a = some o) (hP : lstP vs o) (hv : BytsAre vs bs) (h2 : 2 ≤ vs.length) (hz : bs.flatten.length ≤ 1000000)
    (h : ∀ s' t', s'.heap = s.heap → s'.gens = s.gens → s'.drawn = s.drawn → s'.os = s.os → Q (.done (.ret (.bytes bs.flatten.toArray t'))) s') : wpAny (model prog w) A (Builtin.«bytes.join» ⟨[.bytes #[] t, .ref a], []⟩) Q E s := by
  obtain ⟨n, rfl⟩ := hP
  unfold Builtin.«bytes.join» Bytes.joinM
  refine wpAny_bind (wpAny_of_eq (a := (Value.bytes #[] t, Value.ref a)) (by kernel_rfl) ?_)
  dsimp only
  refine bm_if_true rfl ?_
  have hji : wpAny (model prog w) A (Bytes.joinItems (.ref a)) (fun r s' => r = .ref a ∧ s' = s) E s := by
    unfold Bytes.joinItems
    refine wpAny_bind (wpAny_typeOf (T := "list") ⟨_, ho, rfl⟩ ?_)
    exact bm_if_true rfl (wpAny_pure ⟨rfl, rfl⟩)
  refine wpAny_bind (wpAny_mono hji (fun r s' hr => ?_) fun _ _ z => z)
  obtain ⟨rfl, rfl⟩ := hr
  refine wpAny_bind (wpAny_seqItems ho rfl ?_)
  dsimp only
  refine bm_if_true rfl ?_
  have hlen : vs.toArray.size = vs.length := List.size_toArray ..
  rw [join_match _ _ _ (by rw [hlen]; omega)]
  rw [Std.Legacy.Range.forIn_eq_forIn_range']
  have hrs : (Std.Legacy.Range.mk 0 vs.toArray.size 1 (by decide)).size = vs.length := by simp [Std.Legacy.Range.size]
  refine wpAny_bind ?_
  rw [hrs]
  refine wpAny_forRange _ (fun i b => b.1.toList = (bs.take i).map List.toArray ∧ (∀ p ∈ b.2, p.2 = none) ∧ (∀ p ∈ b.2, p.1.onHeap = false)) _ vs.length 0 _ ⟨rfl, by simp, by simp⟩ ?_ ?_
  · rintro j ⟨ps, ts⟩ Q' - hj ⟨h1, h3, h4⟩ hq
    dsimp only at h1 h3 h4 ⊢
    refine wpAny_bind (wpAny_seqItems ho rfl ?_)
    dsimp only
    have hany : (Bytes.Kind.bytes == Bytes.Kind.bytearray || ts.any fun x => x.1.onHeap) = false := by
      rw [Bool.or_eq_false_iff]
      exact ⟨rfl, by rw [List.any_eq_false]; intro p hp; rw [h4 p hp]; decide⟩
    refine bm_if_false hany ?_
    obtain ⟨b, u, hb, hvj⟩ := bytsAre_at hv (i := j) (by omega)
    have hgd : vs.toArray.getD j .none = .bytes b.toArray u := by simp [hvj]
    rw [hgd]
    refine wpAny_bind (wpAny_holding (bytes_takeBuffer ?_))
    dsimp only
    refine wpAny_bind (wpAny_seqItems ho rfl ?_)
    dsimp only
    refine bm_if_false (by simp) ?_
    refine wpAny_pure (hq (_, _) ⟨?_, ?_, ?_⟩)
    · rw [Array.toList_push, h1, List.take_add_one, hb, List.map_append]; rfl
    · intro p hp
      rcases List.mem_append.mp hp with hp | hp
      · exact h3 p hp
      · rw [List.mem_singleton.mp hp]
    · intro p hp
      rcases List.mem_append.mp hp with hp | hp
      · exact h4 p hp
      · rw [List.mem_singleton.mp hp]; rfl
  · rintro ⟨ps, ts⟩ ⟨h1, h3, h4⟩
    dsimp only at h1 h3 h4 ⊢
    have hbl : bs.take (0 + vs.length) = bs := by rw [Nat.zero_add, hv.length, List.take_length]
    rw [hbl] at h1
    refine wpAny_bind (wpAny_of_eq (a := (#[] : Array UInt8)) rfl ?_)
    have hps : ps = (bs.map List.toArray).toArray := by rw [← h1, Array.toArray_toList]
    have hjn : Bytes.joined #[] ps.toList = bs.flatten.toArray := by
      unfold Bytes.joined
      rw [h1, joined_nil]
      simp
    have hsz : ps.foldl (fun x1 x2 => x1 + x2.size) ((#[] : Array UInt8).size * (ps.size - 1)) = bs.flatten.length := by
      rw [← Array.foldl_toList, h1, sizes_sum]
      simp
    refine bm_if_false (by rw [hsz]; unfold Bytes.tooLong; rw [sizeLine_eq]; exact decide_eq_false (by omega)) ?_
    rw [hjn]
    refine wpAny_bind (wpAny_mkBytes ?_ (by rw [sizeLine_eq, List.size_toArray]; exact Nat.le_trans hz (by decide)))
    refine wpAny_bind (wpAny_holding (wpAny_point ?_))
    refine wpAny_bind (wpAny_joinLetGo ?_ _ h3)
    exact wpAny_pure (h _ _ rfl rfl rfl rfl)

theorem join_tree1 {a : Addr} {o : Obj} {b : List UInt8} {u t : Tok} {Q : PySem.Fin → Shared → Prop} (ho : s.heap.get? a = some o) (hP : lstP [.bytes b.toArray u] o)
    (h : Q (.done (.ret (.bytes b.toArray u))) s) : wpAny (model prog w) A (Builtin.«bytes.join» ⟨[.bytes #[] t, .ref a], []⟩) Q E s := by
  obtain ⟨n, rfl⟩ := hP
  unfold Builtin.«bytes.join» Bytes.joinM
  refine wpAny_bind (wpAny_of_eq (a := (Value.bytes #[] t, Value.ref a)) (by kernel_rfl) ?_)
  dsimp only
  refine bm_if_true rfl ?_
  have hji : wpAny (model prog w) A (Bytes.joinItems (.ref a)) (fun r s' => r = .ref a ∧ s' = s) E s := by
    unfold Bytes.joinItems
    refine wpAny_bind (wpAny_typeOf (T := "list") ⟨_, ho, rfl⟩ ?_)
    exact bm_if_true rfl (wpAny_pure ⟨rfl, rfl⟩)
  refine wpAny_bind (wpAny_mono hji (fun r s' hr => ?_) fun _ _ z => z)
  obtain ⟨rfl, rfl⟩ := hr
  refine wpAny_bind (wpAny_seqItems ho rfl ?_)
  dsimp only
  refine bm_if_true rfl ?_
  refine wpAny_bind (wpAny_of_eq (a := Value.type "bytes") rfl ?_)
  refine bm_if_true (by decide) ?_
  first
    | exact wpAny_bind (wpAny_rule (wpAny_pure h))
    | exact wpAny_bind (wpAny_rule (wpAny_bind (wpAny_pure (wpAny_pure h))))
end

section
variable {prog : Program} {w : World} {A : Around} {E : Value → Shared → Prop} {base h₀ h : Heap} {l₀ l : List Item} {L : Addr} {g : Array GenState} {d : Drawn} {tk : Nat} {os : OsState} {m : Str → Option Value} {x y : Addr} {i j : Nat} {s : Shared}

theorem meth_bjoin {t : Tok} {b : Array UInt8} {pl : Sem Bool} {Q : Value × List Value → Shared → Prop} (k : Q (.builtin "bytes.join", [.bytes b t]) s) : wpB (model prog w) A (getMethod (.bytes b t) (Str.ofString "join") pl) Q E s :=
  of_any (getMethod_builtin (s := s) (typeIs_bytes s b t) FB.plainAttrs_bytes slot_bjoin type_bjoin (fun y e => by cases e) k)
theorem l_join {vs : List Value} {bs : List (List UInt8)} {t : Tok} {Q : Value → Shared → Prop} (D : Led base h₀ l₀ L h m l) (hi : l[i]? = some (x, lstP vs)) (hv : BytsAre vs bs) (h1 : 1 ≤ vs.length) (hz : bs.flatten.length ≤ 1000000)
    (k : ∀ t' tk', Q (.bytes bs.flatten.toArray t') ⟨h, g, d, tk', os⟩) : wpB (model prog w) A (call (.builtin "bytes.join") [.bytes #[] t, .ref x]) Q E ⟨h, g, d, tk, os⟩ := by
  obtain ⟨o, ho, hP⟩ := D.at hi
  refine of_any (wpAny_call_entry slot_bjoin (typeIs_bytes _ _ _) entry_bjoin ?_ (args_bjoin _ _))
  by_cases h2 : 2 ≤ vs.length
  · refine join_tree (s := ⟨h, g, d, tk, os⟩) ho hP hv h2 hz fun s' t' e1 e2 e3 e4 => ⟨_, rfl, ?_⟩
    obtain ⟨h', g', d', tk', os'⟩ := s'
    dsimp only at e1 e2 e3 e4
    subst e1 e2 e3 e4
    exact k t' tk'
  · cases hv with
    | nil => simp at h1
    | cons b u r =>
      cases r with
      | nil =>
        refine join_tree1 (s := ⟨h, g, d, tk, os⟩) ho hP ⟨_, rfl, ?_⟩
        have := k u tk
        rwa [List.flatten_cons, List.flatten_nil, List.append_nil] at this
      | cons c u' r' => simp at h2

/-- lists with the same bytes are the same -/
theorem eqAt_bytes {b : Array UInt8} {t u : Tok} : PySem.SeqAt.EqAt A s (.bytes b t) (.bytes b u) true := fun prog w E Q hq => by
  by_cases e : (Value.bytes b t == Value.bytes b u) = true
  · unfold eqBool
    refine wpAny_holding ?_
    rw [if_pos e]
    exact wpAny_bind (wpAny_rule (wpAny_pure hq))
  · unfold eqBool
    refine wpAny_holding ?_
    rw [if_neg e]
    refine wpAny_bind (m := richCompare .Eq (.bytes b t) (.bytes b u)) ?_
    refine eq_bytes (E := E) (Q := fun v s' => wpAny (model prog w) A (truthOfDropped v) Q E s') ?_
    rw [beq_self_eq_true]
    exact wpAny_truthy_bool hq
theorem l_eqByts {vs ws : List Value} {bs : List (List UInt8)} {Q : Value → Shared → Prop} (D : Led base h₀ l₀ L h m l) (hi : l[i]? = some (x, lstP vs)) (hj : l[j]? = some (y, lstP ws)) (hv : BytsAre vs bs) (hw : BytsAre ws bs) (hu : A.units + 64 < cLine)
    (k : Q (.bool true) ⟨h, g, d, tk, os⟩) : wpB (model prog w) A (compareOp .Eq (.ref x) (.ref y)) Q E ⟨h, g, d, tk, os⟩ := by
  refine of_any (PySem.SeqAt.eq_listAt (s := ⟨h, g, d, tk, os⟩) (e := fun _ => true) (D.isList hi lst_any) (D.isList hj lst_any) ?_ (by omega) (fun n h1 h2 => ?_) (by rw [List.all_eq_true.mpr (fun _ _ => rfl)]; exact k))
  · rw [List.size_toArray, List.size_toArray, hv.length, hw.length]
  · rw [List.size_toArray] at h1 h2
    obtain ⟨b, t, hb, e1⟩ := bytsAre_at hv h1
    obtain ⟨b', u, hb', e2⟩ := bytsAre_at hw h2
    rw [hb] at hb'; cases hb'
    obtain ⟨_, e1⟩ := List.getElem?_eq_some_iff.mp e1
    obtain ⟨_, e2⟩ := List.getElem?_eq_some_iff.mp e2
    simp only [List.getElem_toArray]
    rw [e1, e2]
    exact eqAt_bytes
end
end Mine
end

section
namespace Mine

theorem takeF_append : ∀ (a b rd ln : List UInt8), takeF (a ++ b) rd ln = ((takeF a rd ln).1 ++ (takeF b (takeF a rd ln).2.1 (takeF a rd ln).2.2).1, (takeF b (takeF a rd ln).2.1 (takeF a rd ln).2.2).2)
  | [], b, rd, ln => rfl
  | c :: r, b, rd, ln => by
    show ((typF c ln).1 ++ (takeF (r ++ b) (typF c ln).2.1 (typF c ln).2.2).1, (takeF (r ++ b) (typF c ln).2.1 (typF c ln).2.2).2) = (((typF c ln).1 ++ (takeF r (typF c ln).2.1 (typF c ln).2.2).1) ++ _, _)
    rw [takeF_append r b, List.append_assoc]
    rfl
theorem okF_append : ∀ (a b rd ln : List UInt8), okF (a ++ b) rd ln ↔ okF a rd ln ∧ okF b (takeF a rd ln).2.1 (takeF a rd ln).2.2
  | [], b, rd, ln => ⟨fun h => ⟨trivial, h⟩, fun h => h.2⟩
  | c :: r, b, rd, ln => by
    rw [List.cons_append]
    have ih := okF_append r b (typF c ln).2.1 (typF c ln).2.2
    constructor
    · intro h
      exact ⟨⟨h.1, h.2.1, (ih.mp h.2.2).1⟩, (ih.mp h.2.2).2⟩
    · intro h
      exact ⟨h.1.1, h.1.2.1, ih.mpr ⟨h.1.2.2, h.2⟩⟩

/-- a letter of a line that is meant -/
noncomputable def letter (c : UInt8) : Prop := c = 97 ∨ c = 98 ∨ c = 32 ∨ c = 99 ∨ c = 100
/-- an octet that ends no line -/
abbrev plainC (c : UInt8) : Prop := c ≠ 10 ∧ c ≠ 13 ∧ c ≠ 4
theorem letter.plain {c : UInt8} (h : letter c) : plainC c := by
  rcases h with rfl | rfl | rfl | rfl | rfl <;> decide
theorem typF_letter {c : UInt8} (h : letter c) (ln : List UInt8) : typF c ln = ([c], [], ln ++ [c]) := by
  rcases h with rfl | rfl | rfl | rfl | rfl <;> rfl
theorem typF_plain {c : UInt8} (h : plainC c) (ln : List UInt8) : (typF c ln).2.1 = [] := by
  unfold typF
  split
  · rfl
  split
  · split <;> rfl
  split
  · rfl
  · dsimp only
    rw [if_neg h.2.1]
    have : isEnd c = false := by
      unfold isEnd
      rw [Bool.or_eq_false_iff]
      exact ⟨beq_false_of_ne h.1, beq_false_of_ne h.2.2⟩
    rw [this]; rfl
theorem typF_w (c : UInt8) (ln : List UInt8) (h : c = 122 ∨ c = 119 ∨ c = 118 ∨ c = 120 ∨ c = 121) : typF c ln = ([c], [], ln ++ [c]) := by
  rcases h with rfl | rfl | rfl | rfl | rfl <;> rfl
theorem typF_back (c : UInt8) (ln : List UInt8) (x : UInt8) (h : c = 8 ∨ c = 127) : typF c (ln ++ [x]) = (erased, [], ln) := by
  have : ¬ (ln ++ [x] = []) := by simp
  rcases h with rfl | rfl
  · show (if ln ++ [x] = [] then ([], [], []) else (erased, [], (ln ++ [x]).dropLast)) = _
    rw [if_neg this, List.dropLast_concat]
  · show (if ln ++ [x] = [] then ([], [], []) else (erased, [], (ln ++ [x]).dropLast)) = _
    rw [if_neg this, List.dropLast_concat]
theorem typF_0 (ln : List UInt8) : typF 0 ln = ([], [], ln) := rfl
theorem typF_21 (ln : List UInt8) : typF 21 ln = (kills ln.length, [], []) := rfl
noncomputable def endC (e : UInt8) : UInt8 := if e = 13 then 10 else e
theorem typF_end (e : UInt8) (ln : List UInt8) (h : e = 10 ∨ e = 13 ∨ e = 4) : typF e ln = ([endC e], ln ++ [endC e], []) := by
  rcases h with rfl | rfl | rfl <;> rfl

theorem junk_ok {j : List UInt8} (hj : JunkP j) {l : List UInt8} (hl : l.length ≤ 20) : okF j [] l ∧ (takeF j [] l).2 = ([], l) := by
  rcases hj with rfl | rfl | rfl | rfl
  · exact ⟨trivial, rfl⟩
  · refine ⟨⟨rfl, by omega, ?_⟩, ?_⟩
    · rw [typF_w _ _ (.inl rfl)]; exact ⟨rfl, by simp; omega, trivial⟩
    · unfold takeF takeF takeF; rw [typF_w _ _ (.inl rfl)]; dsimp only; rw [typF_back 8 l 122 (.inl rfl)]
  · refine ⟨⟨rfl, by omega, ?_⟩, ?_⟩
    · rw [typF_w _ _ (.inl rfl)]; exact ⟨rfl, by simp; omega, trivial⟩
    · unfold takeF takeF takeF; rw [typF_w _ _ (.inl rfl)]; dsimp only; rw [typF_back 127 l 122 (.inr rfl)]
  · refine ⟨⟨rfl, by omega, ?_⟩, ?_⟩
    · rw [typF_0]; refine ⟨rfl, Nat.le_trans hl (by decide), ?_⟩
      rw [typF_w 119 _ (.inr (.inl rfl))]; refine ⟨rfl, by simp; omega, ?_⟩
      rw [typF_w 118 _ (.inr (.inr (.inl rfl)))]; refine ⟨rfl, by simp; omega, ?_⟩
      dsimp only
      rw [typF_back 127 (l ++ [119]) 118 (.inr rfl)]; refine ⟨rfl, by simp; omega, ?_⟩
      dsimp only
      rw [typF_0]; exact ⟨rfl, by simp; omega, trivial⟩
    · unfold takeF takeF takeF takeF takeF takeF takeF
      rw [typF_0]
      dsimp only
      rw [typF_w 119 _ (.inr (.inl rfl))]
      dsimp only
      rw [typF_w 118 _ (.inr (.inr (.inl rfl)))]
      dsimp only
      rw [typF_back 127 (l ++ [119]) 118 (.inr rfl)]
      dsimp only
      rw [typF_0]
      dsimp only
      rw [typF_back 8 l 119 (.inl rfl)]

theorem Typed.run {l m : List UInt8} (h : Typed l m) (hl : ∀ c ∈ l, letter c) (hz : l.length ≤ 20) : okF m [] [] ∧ (takeF m [] []).2 = ([], l) ∧ ∀ c ∈ m, plainC c := by
  induction h with
  | start0 => exact ⟨trivial, rfl, by simp⟩
  | start p h =>
    rcases h with rfl | rfl | rfl | rfl | rfl
    · refine ⟨⟨rfl, by simp, ?_⟩, rfl, by decide⟩; exact ⟨rfl, by decide, trivial⟩
    · refine ⟨⟨rfl, by simp, ?_⟩, rfl, by decide⟩; exact ⟨rfl, by decide, rfl, by decide, trivial⟩
    · refine ⟨⟨rfl, by simp, ?_⟩, rfl, by decide⟩; exact ⟨rfl, by decide, rfl, by decide, rfl, by decide, trivial⟩
    · refine ⟨⟨rfl, by simp, ?_⟩, rfl, by decide⟩; exact ⟨rfl, by decide, trivial⟩
    · refine ⟨⟨rfl, by simp, ?_⟩, rfl, by decide⟩; exact ⟨rfl, by decide, rfl, by decide, trivial⟩
  | @step l m j c h hj ih =>
    have hc : letter c := hl c (by simp)
    obtain ⟨h1, h2, h3⟩ := ih (fun x hx => hl x (List.mem_append_left _ hx)) (by simp at hz; omega)
    obtain ⟨h4, h5⟩ := junk_ok hj (l := l) (by simp at hz; omega)
    refine ⟨?_, ?_, ?_⟩
    · rw [List.append_assoc, okF_append, h2, okF_append]
      refine ⟨h1, h4, ?_⟩
      rw [h5]
      exact ⟨rfl, by simp at hz ⊢; omega, trivial⟩
    · rw [List.append_assoc, takeF_append, h2]
      dsimp only
      rw [takeF_append, h5]
      dsimp only
      unfold takeF takeF
      rw [typF_letter hc]
    · intro x hx
      rw [List.append_assoc] at hx
      rcases List.mem_append.mp hx with hx | hx
      · exact h3 x hx
      · rcases List.mem_append.mp hx with hx | hx
        · have key : ∀ j : List UInt8, JunkP j → ∀ x ∈ j, plainC x := by rintro j (rfl | rfl | rfl | rfl) <;> decide
          exact key j hj x hx
        · rw [List.mem_singleton.mp hx]; exact hc.plain

/-! the screen -/
/-- the screen stands ahead of a line's next letter: the row's beginning `open`, the letters `ln`, and blanks behind -/
noncomputable def AtScr (st : Scr) (rows : List (List UInt8)) (op ln : List UInt8) : Prop := ∃ k, st = (rows, op ++ ln ++ List.replicate k 32, op.length + ln.length)

theorem scr_erase {st : Scr} {rows : List (List UInt8)} {op ln : List UInt8} {x : UInt8} (h : AtScr st rows op (ln ++ [x])) : AtScr (erased.foldl scrS st) rows op ln := by
  obtain ⟨k, rfl⟩ := h
  refine ⟨k + 1, ?_⟩
  unfold erased
  rw [List.foldl_cons, List.foldl_cons, List.foldl_cons, List.foldl_nil]
  have e1 : scrS (rows, op ++ (ln ++ [x]) ++ List.replicate k 32, op.length + (ln ++ [x]).length) 8 = (rows, op ++ (ln ++ [x]) ++ List.replicate k 32, op.length + ln.length) := by
    unfold scrS; rw [if_pos rfl]; simp
  have e2 : scrS (rows, op ++ (ln ++ [x]) ++ List.replicate k 32, op.length + ln.length) 32 = (rows, op ++ ln ++ List.replicate (k + 1) 32, op.length + ln.length + 1) := by
    unfold scrS
    rw [if_neg (by decide), if_neg (by decide), if_neg (by decide)]
    dsimp only
    have t1 : (op ++ (ln ++ [x]) ++ List.replicate k 32).take (op.length + ln.length) = op ++ ln := by
      rw [← List.append_assoc, List.append_assoc, ← List.length_append, List.take_left']
      rfl
    have t2 : (op ++ (ln ++ [x]) ++ List.replicate k 32).drop (op.length + ln.length + 1) = List.replicate k 32 := by
      have : op.length + ln.length + 1 = (op ++ (ln ++ [x])).length := by simp; omega
      rw [this, List.drop_left']
      rfl
    rw [t1, t2, List.replicate_succ]
    simp
  have e3 : scrS (rows, op ++ ln ++ List.replicate (k + 1) 32, op.length + ln.length + 1) 8 = (rows, op ++ ln ++ List.replicate (k + 1) 32, op.length + ln.length) := by
    unfold scrS; rw [if_pos rfl]; simp
  rw [e1, e2, e3]
theorem scr_put {st : Scr} {rows : List (List UInt8)} {op ln : List UInt8} {c : UInt8} (h : AtScr st rows op ln) (h8 : c ≠ 8) (h10 : c ≠ 10) (h4 : c ≠ 4) : AtScr (scrS st c) rows op (ln ++ [c]) := by
  obtain ⟨k, rfl⟩ := h
  refine ⟨k - 1, ?_⟩
  unfold scrS
  rw [if_neg h8, if_neg h10, if_neg h4]
  dsimp only
  have t1 : (op ++ ln ++ List.replicate k 32).take (op.length + ln.length) = op ++ ln := by
    rw [← List.length_append, List.take_left']; rfl
  have t2 : (op ++ ln ++ List.replicate k 32).drop (op.length + ln.length + 1) = List.replicate (k - 1) 32 := by
    rw [← List.length_append, ← List.drop_drop, List.drop_left' rfl, List.drop_replicate]
  rw [t1, t2]
  simp [Nat.add_assoc]
theorem scr_kills {rows : List (List UInt8)} {op : List UInt8} : ∀ (n : Nat) (ln : List UInt8) (st : Scr), ln.length = n → AtScr st rows op ln → AtScr ((kills n).foldl scrS st) rows op []
  | 0, ln, st, hn, h => by
    obtain rfl := List.length_eq_zero_iff.mp hn
    exact h
  | n + 1, ln, st, hn, h => by
    rcases List.eq_nil_or_concat ln with rfl | ⟨r, x, e⟩
    · cases hn
    · rw [List.concat_eq_append] at e
      subst e
      have hk : kills (n + 1) = erased ++ kills n := by
        unfold kills; rw [List.replicate_succ, List.flatten_cons]
      rw [hk, List.foldl_append]
      exact scr_kills n r _ (by simpa using hn) (scr_erase h)
theorem scr_typF {st : Scr} {rows : List (List UInt8)} {op ln : List UInt8} {c : UInt8} (hc : plainC c) (h : AtScr st rows op ln) : AtScr ((typF c ln).1.foldl scrS st) rows op (typF c ln).2.2 := by
  unfold typF
  split
  · exact scr_kills _ ln st rfl h
  split
  · split
    · rename_i e; subst e; exact h
    · rename_i e
      rcases List.eq_nil_or_concat ln with rfl | ⟨r, x, e'⟩
      · exact absurd rfl e
      · rw [List.concat_eq_append] at e'
        subst e'
        rw [List.dropLast_concat]
        exact scr_erase h
  rename_i h8
  split
  · exact h
  · dsimp only
    rw [if_neg hc.2.1]
    have : isEnd c = false := by
      unfold isEnd
      rw [Bool.or_eq_false_iff]
      exact ⟨beq_false_of_ne hc.1, beq_false_of_ne hc.2.2⟩
    rw [this]
    exact scr_put h (fun e => h8 (.inl e)) hc.1 hc.2.2
theorem scr_takeF {rows : List (List UInt8)} {op : List UInt8} : ∀ (m ln : List UInt8) (st : Scr), (∀ c ∈ m, plainC c) → AtScr st rows op ln → AtScr ((takeF m [] ln).1.foldl scrS st) rows op (takeF m [] ln).2.2
  | [], ln, st, _, h => h
  | c :: r, ln, st, hm, h => by
    have hc := hm c (List.mem_cons_self ..)
    unfold takeF
    dsimp only
    rw [List.foldl_append, typF_plain hc]
    exact scr_takeF r _ _ (fun x hx => hm x (List.mem_cons_of_mem _ hx)) (scr_typF hc h)

/-- what is echoed when `line`, ended by `e`, is typed -/
noncomputable def EchoOf (line : List UInt8) (e : UInt8) (echo : List UInt8) : Prop := ∃ m, Typed line m ∧ echo = (takeF m [] []).1 ++ [endC e]
/-- after a line -/
theorem scr_line {st : Scr} {rows : List (List UInt8)} {op line echo : List UInt8} {e : UInt8} (he : e = 10 ∨ e = 13 ∨ e = 4) (hl : ∀ c ∈ line, letter c) (hz : line.length ≤ 20) (hE : EchoOf line e echo) (h : AtScr st rows op []) :
    ∃ k, echo.foldl scrS st = if e = 4 then (rows, op ++ line ++ List.replicate k 32, op.length + line.length) else (rows ++ [op ++ line ++ List.replicate k 32], [], 0) := by
  obtain ⟨m, hT, rfl⟩ := hE
  obtain ⟨h1, h2, h3⟩ := hT.run hl hz
  have := scr_takeF m [] st h3 h
  rw [h2] at this
  obtain ⟨k, hk⟩ := this
  refine ⟨k, ?_⟩
  rw [List.foldl_append, hk]
  rcases he with rfl | rfl | rfl <;> rfl

theorem strip_blanks (r : List UInt8) : ∀ k, stripF (r ++ List.replicate k 32) = stripF r
  | 0 => by simp
  | k + 1 => by
    rw [List.replicate_succ', ← List.append_assoc, strip_snoc32, strip_blanks r k]
noncomputable def Ends100 (r : List UInt8) : Prop := r = [] ∨ ∃ q, r = q ++ [100]
theorem strip_ends {r : List UInt8} (h : Ends100 r) (k : Nat) : stripF (r ++ List.replicate k 32) = r := by
  rw [strip_blanks]
  rcases h with rfl | ⟨q, rfl⟩
  · rfl
  · exact strip_snoc q (by decide)
end Mine
end

section
namespace Mine

theorem manyF_10 : ∀ (l : List UInt8) (n : Nat), (∀ c ∈ l, letter c) → manyF n (l ++ [10]) = min n (l.length + 1)
  | [], 0, _ => rfl
  | [], n + 1, _ => by
    show (if (10 : UInt8) = 4 then 0 else if (10 : UInt8) = 10 then 1 else _) = _
    rw [if_neg (by decide), if_pos rfl]; simp
  | c :: r, 0, _ => by simp [manyF]
  | c :: r, n + 1, h => by
    have hc := (h c (List.mem_cons_self ..)).plain
    show (if c = 4 then 0 else if c = 10 then 1 else 1 + manyF n (r ++ [10])) = _
    rw [if_neg hc.2.2, if_neg hc.1, manyF_10 r n fun x hx => h x (List.mem_cons_of_mem _ hx)]
    simp; omega
theorem manyF_4 : ∀ (l : List UInt8) (n : Nat), (∀ c ∈ l, letter c) → manyF n (l ++ [4]) = min n l.length
  | [], 0, _ => rfl
  | [], n + 1, _ => by
    show (if (4 : UInt8) = 4 then 0 else if (4 : UInt8) = 10 then 1 else _) = _
    rw [if_pos rfl]; simp
  | c :: r, 0, _ => by simp [manyF]
  | c :: r, n + 1, h => by
    have hc := (h c (List.mem_cons_self ..)).plain
    show (if c = 4 then 0 else if c = 10 then 1 else 1 + manyF n (r ++ [4])) = _
    rw [if_neg hc.2.2, if_neg hc.1, manyF_4 r n fun x hx => h x (List.mem_cons_of_mem _ hx)]
    simp; omega

noncomputable def RestF (f : Nat → Nat) (e : UInt8) (i : Nat) (ready : List UInt8) (rest : List (List UInt8)) : Prop :=
  (ready = [] ∧ rest = []) ∨
    if e = 4 then ∃ l n, l.length ≤ n ∧ ready = l ++ [4] ∧ (∀ c ∈ l, letter c) ∧ rest = chunkF f n i l ++ [[]]
    else ∃ l n, l.length + 1 ≤ n ∧ ready = l ++ [10] ∧ (∀ c ∈ l, letter c) ∧ rest = chunkF f n i (l ++ [10])

theorem restF_start {cs : List Nat} {line : List UInt8} {e : UInt8} (he : e = 10 ∨ e = 13 ∨ e = 4) (hl : ∀ c ∈ line, letter c) (hz : line.length ≤ 20) : RestF (cntF cs) e 0 (line ++ [endC e]) (dueF cs line e) := by
  right
  rcases he with rfl | rfl | rfl
  · rw [if_neg (by decide)]; exact ⟨line, 30, by omega, rfl, hl, by unfold dueF leftF; simp⟩
  · rw [if_neg (by decide)]; exact ⟨line, 30, by omega, rfl, hl, by unfold dueF leftF; simp⟩
  · rw [if_pos rfl]; exact ⟨line, 30, by omega, rfl, hl, by unfold dueF leftF; simp⟩
theorem restF_end {f : Nat → Nat} {e : UInt8} {i : Nat} {ready : List UInt8} (h : RestF f e i ready []) : ready = [] := by
  rcases h with h | h
  · exact h.1
  · split at h
    · obtain ⟨l, n, _, _, _, h⟩ := h
      have := congrArg List.length h
      simp at this
    · obtain ⟨l, n, hn, _, _, h⟩ := h
      obtain ⟨n, rfl⟩ : ∃ k, n = k + 1 := ⟨n - 1, by omega⟩
      rw [chunkF_cons _ (by simp)] at h
      cases h
theorem restF_step {f : Nat → Nat} {e : UInt8} {i : Nat} {ready b : List UInt8} {rest : List (List UInt8)} (h : RestF f e i ready (b :: rest)) (hf : 1 ≤ f i) :
    ready ≠ [] ∧ b = ready.take (manyF (f i) ready) ∧ RestF f e (i + 1) (ready.drop (if manyF (f i) ready = 0 then 1 else manyF (f i) ready)) rest := by
  rcases h with h | h
  · cases h.2
  · split at h
    · rename_i he
      obtain ⟨l, n, hn, rfl, hl, h⟩ := h
      refine ⟨by simp, ?_⟩
      rw [manyF_4 l _ hl]
      by_cases hl0 : l = []
      · subst hl0
        rw [chunkF_nil] at h
        obtain ⟨rfl, rfl⟩ : b = [] ∧ rest = [] := by simpa using h
        refine ⟨by simp, .inl ⟨by simp, rfl⟩⟩
      · have hlp : 1 ≤ l.length := by cases l <;> simp_all
        obtain ⟨n, rfl⟩ : ∃ k, n = k + 1 := ⟨n - 1, by omega⟩
        rw [chunkF_cons _ hl0, List.cons_append] at h
        obtain ⟨rfl, rfl⟩ := List.cons.inj h
        have hm : min (f i) l.length ≠ 0 := by omega
        rw [if_neg hm]
        refine ⟨?_, .inr ?_⟩
        · rw [List.take_append_of_le_length (by omega)]
          rw [List.take_eq_take_min]
        · rw [if_pos he]
          refine ⟨l.drop (f i), n, by rw [List.length_drop]; omega, ?_, fun c hc => hl c (List.mem_of_mem_drop hc), rfl⟩
          rw [List.drop_append_of_le_length (by omega)]
          congr 1
          by_cases hle : f i ≤ l.length
          · rw [Nat.min_eq_left hle]
          · rw [Nat.min_eq_right (by omega), List.drop_length, List.drop_eq_nil_of_le (by omega)]
    · rename_i he
      obtain ⟨l, n, hn, rfl, hl, h⟩ := h
      refine ⟨by simp, ?_⟩
      rw [manyF_10 l _ hl]
      obtain ⟨n, rfl⟩ : ∃ k, n = k + 1 := ⟨n - 1, by omega⟩
      rw [chunkF_cons _ (by simp)] at h
      obtain ⟨rfl, rfl⟩ := List.cons.inj h
      have hm : min (f i) (l.length + 1) ≠ 0 := by omega
      rw [if_neg hm]
      have hlen : (l ++ [10]).length = l.length + 1 := by simp
      refine ⟨by rw [← hlen, List.take_eq_take_min], ?_⟩
      by_cases hle : f i ≤ l.length
      · right
        rw [if_neg he, Nat.min_eq_left (by omega)]
        refine ⟨l.drop (f i), n, by rw [List.length_drop]; omega, by rw [List.drop_append_of_le_length hle], fun c hc => hl c (List.mem_of_mem_drop hc), ?_⟩
        rw [List.drop_append_of_le_length hle]
      · left
        rw [Nat.min_eq_right (by omega)]
        refine ⟨List.drop_eq_nil_of_le (by simp), ?_⟩
        rw [List.drop_eq_nil_of_le (by simp; omega), chunkF_nil]
end Mine
end

noncomputable section
set_option maxHeartbeats 4000000

namespace Mine
open PySem PySem.Calls PyProof.Rows PySem.W

theorem junk_len {j : List UInt8} (hj : JunkP j) (l : List UInt8) : (takeF j [] l).1.length ≤ 8 := by
  rcases hj with rfl | rfl | rfl | rfl
  · exact Nat.le_of_ble_eq_true rfl
  · unfold takeF takeF takeF; rw [typF_w _ _ (.inl rfl)]; dsimp only; rw [typF_back 8 l 122 (.inl rfl)]; exact Nat.le_of_ble_eq_true rfl
  · unfold takeF takeF takeF; rw [typF_w _ _ (.inl rfl)]; dsimp only; rw [typF_back 127 l 122 (.inr rfl)]; exact Nat.le_of_ble_eq_true rfl
  · unfold takeF takeF takeF takeF takeF takeF takeF
    rw [typF_0]; dsimp only
    rw [typF_w 119 _ (.inr (.inl rfl))]; dsimp only
    rw [typF_w 118 _ (.inr (.inr (.inl rfl)))]; dsimp only
    rw [typF_back 127 (l ++ [119]) 118 (.inr rfl)]; dsimp only
    rw [typF_0]; dsimp only
    rw [typF_back 8 l 119 (.inl rfl)]; exact Nat.le_of_ble_eq_true rfl
theorem takeF_one (c : UInt8) (rd ln : List UInt8) : takeF [c] rd ln = typF c ln := by
  show ((typF c ln).1 ++ [], (typF c ln).2) = _
  rw [List.append_nil]
theorem Typed.echoLen {l m : List UInt8} (h : Typed l m) (hl : ∀ c ∈ l, letter c) (hz : l.length ≤ 20) : (takeF m [] []).1.length ≤ 12 + 9 * l.length := by
  induction h with
  | start0 => decide
  | start p h => rcases h with rfl | rfl | rfl | rfl | rfl <;> decide
  | @step l m j c h hj ih =>
    have hl' : ∀ x ∈ l, letter x := fun x hx => hl x (List.mem_append_left _ hx)
    have hz' : l.length ≤ 20 := by simp at hz; omega
    have ih := ih hl' hz'
    obtain ⟨h1, h2, h3⟩ := h.run hl' hz'
    obtain ⟨h4, h5⟩ := junk_ok hj hz'
    have hjl := junk_len hj l
    rw [List.append_assoc, takeF_append, h2]
    dsimp only
    rw [takeF_append, h5]
    dsimp only
    rw [takeF_one, typF_letter (hl c (by simp))]
    simp only [List.length_append, List.length_cons, List.length_nil]
    omega

/-- a line typed, its octets told one after the other -/
structure Octs (line : List UInt8) (e : UInt8) (octs : List UInt8) (echo : List UInt8) : Prop where
  ok : okF octs [] []
  all : takeF octs [] [] = (echo, line ++ [endC e], [])
  how : EchoOf line e echo
  len : octs.length ≤ 200
  echoLen : echo.length ≤ 13 + 9 * line.length
theorem octs_of {line m : List UInt8} {e : UInt8} (hT : Typed line m) (hl : ∀ c ∈ line, letter c) (hz : line.length ≤ 20) (he : e = 10 ∨ e = 13 ∨ e = 4) : Octs line e (m ++ [e]) ((takeF m [] []).1 ++ [endC e]) := by
  obtain ⟨h1, h2, h3⟩ := hT.run hl hz
  have hlen := hT.len
  have hel := hT.echoLen hl hz
  refine ⟨?_, ?_, ⟨m, hT, rfl⟩, by simp; omega, by simp; omega⟩
  · rw [okF_append, h2]
    exact ⟨h1, rfl, by dsimp only; omega, trivial⟩
  · rw [takeF_append, h2]
    dsimp only
    rw [takeF_one, typF_end e line he]
theorem Octs.ahead {line octs echo : List UInt8} {e : UInt8} (H : Octs line e octs echo) {q : Nat} (hq : q < octs.length) : (takeF (octs.take q) [] []).2.1 = [] := by
  have h := H.ok
  rw [← List.take_append_drop q octs, okF_append] at h
  rw [List.drop_eq_getElem_cons hq] at h
  exact h.2.1
theorem Octs.behind {line octs echo : List UInt8} {e : UInt8} (H : Octs line e octs echo) {q : Nat} (hq : octs.length ≤ q) : takeF (octs.take q) [] [] = (echo, line ++ [endC e], []) := by
  rw [List.take_of_length_le hq]; exact H.all
theorem Octs.outLen {line octs echo : List UInt8} {e : UInt8} (H : Octs line e octs echo) (q : Nat) : (takeF (octs.take q) [] []).1.length ≤ 13 + 9 * line.length := by
  have h := H.all
  rw [← List.take_append_drop q octs, takeF_append] at h
  have := congrArg (fun x => x.1.length) h
  dsimp only at this
  rw [List.length_append] at this
  have := H.echoLen
  omega
theorem Octs.piece {line octs echo : List UInt8} {e : UInt8} (H : Octs line e octs echo) (q z : Nat) :
    okF ((octs.drop q).take z) (takeF (octs.take q) [] []).2.1 (takeF (octs.take q) [] []).2.2 ∧
    takeF (octs.take (q + z)) [] [] = ((takeF (octs.take q) [] []).1 ++ (takeF ((octs.drop q).take z) (takeF (octs.take q) [] []).2.1 (takeF (octs.take q) [] []).2.2).1,
      (takeF ((octs.drop q).take z) (takeF (octs.take q) [] []).2.1 (takeF (octs.take q) [] []).2.2).2) := by
  have e1 : octs.take (q + z) = octs.take q ++ (octs.drop q).take z := List.take_add
  refine ⟨?_, by rw [e1, takeF_append]⟩
  have h := H.ok
  rw [← List.take_append_drop (q + z) octs, okF_append, e1, okF_append] at h
  exact h.1.2

theorem cells262 (P : Params) (n : Nat) : cellsFrom n (namesK P 262) [] = [(Str.ofString "counts", n + 1 + 1), (Str.ofString "console", n + 1), (Str.ofString "box", n)] := by kernel_rfl
theorem pick262 (P : Params) (v1 v2 v3 v4 v5 v6 : Value) : pickV (namesK P 262) [(Str.ofString "box", v1), (Str.ofString "uart", v2), (Str.ofString "console", v3), (Str.ofString "line", v4), (Str.ofString "end", v5), (Str.ofString "sent", v6)] [] =
    [(Str.ofString "sent", v6), (Str.ofString "end", v5), (Str.ofString "line", v4), (Str.ofString "uart", v2)] := by kernel_rfl
theorem bind262a (P : Params) (v1 v2 v3 v4 v5 v6 : Value) : bindC (fun n => (namesK P 262).lookup n) [(Str.ofString "box", v1), (Str.ofString "uart", v2), (Str.ofString "console", v3), (Str.ofString "line", v4), (Str.ofString "end", v5), (Str.ofString "sent", v6)] (fun _ => none) (Str.ofString "box") = some v1 := by kernel_rfl
theorem bind262b (P : Params) (v1 v2 v3 v4 v5 v6 : Value) : bindC (fun n => (namesK P 262).lookup n) [(Str.ofString "box", v1), (Str.ofString "uart", v2), (Str.ofString "console", v3), (Str.ofString "line", v4), (Str.ofString "end", v5), (Str.ofString "sent", v6)] (fun _ => none) (Str.ofString "console") = some v3 := by kernel_rfl
theorem bind262c (P : Params) (v1 v2 v3 v4 v5 v6 : Value) : bindC (fun n => (namesK P 262).lookup n) [(Str.ofString "box", v1), (Str.ofString "uart", v2), (Str.ofString "console", v3), (Str.ofString "line", v4), (Str.ofString "end", v5), (Str.ofString "sent", v6)] (fun _ => none) (Str.ofString "counts") = none := by kernel_rfl
theorem keep_243 (P : Params) : keepIn (KW P) (.ref 243) = true := by kernel_rfl
theorem keep_250 (P : Params) : keepIn (KW P) (.ref 250) = true := by kernel_rfl
theorem keep_257 (P : Params) : keepIn (KW P) (.ref 257) = true := by kernel_rfl
theorem keep_262 (P : Params) : keepIn (KW P) (.ref 262) = true := by kernel_rfl
theorem keep_76 (P : Params) : keepIn (KW P) (.ref 76) = true := by kernel_rfl
theorem keep_83 (P : Params) : keepIn (KW P) (.ref 83) = true := by kernel_rfl
theorem keep_187 (P : Params) : keepIn (KW P) (.ref 187) = true := by kernel_rfl
theorem keep_215 (P : Params) : keepIn (KW P) (.ref 215) = true := by kernel_rfl
theorem glob_typed (P : Params) : nsIn (KW P) mainGlobals (Str.ofString "_law_typed") = some (some (.ref 243)) := by kernel_rfl
theorem glob_screen (P : Params) : nsIn (KW P) mainGlobals (Str.ofString "_law_screen") = some (some (.ref 250)) := by kernel_rfl
theorem glob_reads (P : Params) : nsIn (KW P) mainGlobals (Str.ofString "_law_reads") = some (some (.ref 257)) := by kernel_rfl
theorem glob_right (P : Params) : nsIn (KW P) mainGlobals (Str.ofString "_law_line_right") = some (some (.ref 262)) := by kernel_rfl

section
variable {prog : Program} {w : World} {A : Around} {E : Value → Shared → Prop} {base h₀ h : Heap} {l₀ l : List Item} {L : Addr} {g : Array GenState} {d : Drawn} {tk : Nat} {os : OsState} {ls : List (Str × Value)} {m : Str → Option Value} {a : Addr} {cl : List (Str × Addr)} {i j : Nat} {x y : Addr} {env : Env} {bx si : Addr} {rest : List Item}

theorem Own.mid {pre fp rest : List Item} (O : Own base h (pre ++ (fp ++ rest))) : Own base h fp := by
  refine O.sub (fun p hp => List.mem_append_right _ (List.mem_append_left _ hp)) ?_
  have := O.nd
  rw [List.map_append, List.nodup_append, List.map_append, List.nodup_append] at this
  exact this.2.1.1
theorem Led.callMid {h' : Heap} {pre fp fp' rest : List Item} (D : Led base h₀ l₀ L h m (pre ++ (fp ++ rest))) (O : Own base h' fp') (S : Step h h' fp fp') : Led base h₀ l₀ L h' m (pre ++ (fp' ++ rest)) := by
  have p1 : ∀ f : List Item, (pre ++ (f ++ rest)).Perm (f ++ (pre ++ rest)) := fun f => by
    rw [← List.append_assoc, ← List.append_assoc]
    exact List.Perm.append_right _ List.perm_append_comm
  exact ((D.perm (p1 fp)).call O S).perm (p1 fp').symm

/-- draws, the box in a cell -/
theorem c_take {n : Int} {c : Addr} {xpos npos bpos pos : Pos} {kk : Nat} {Q : Value → Shared → Prop} (i : Nat) (S : Stat w base) (R : Room A 1) (hn : 0 < n) (D : Led base h₀ l₀ L h m (boxL bx si ++ rest)) (hi : (boxL bx si ++ rest)[i]? = some (c, cellP (some (.ref bx)))) (hc : env.cells.lookup (Str.ofString "box") = some c)
    (k : ∀ r h' tk' t, 0 ≤ r → r < n → Led base h₀ l₀ L h' m (boxL bx si ++ rest) → Q (.int r t) ⟨h', g, d, tk', os⟩)
    (hk : env.scope.kind = .function) (hg : env.globals = mainGlobals) (hl : env.kindOf (Str.ofString "_law_take") = some .globalImplicit) (hl' : env.kindOf (Str.ofString "box") = some .cell) :
    wpB (model prog w) A (eval (.Call (.Name (Str.ofString "_law_take") xpos) [.Name (Str.ofString "box") bpos, .Constant (.int n) kk npos] [] pos) env) Q NoE ⟨h, g, d, tk, os⟩ := by
  refine b_CallN (g_global S D (glob_take _) (b_cwK (first := []) (keep_229 _) ?_ rfl) hk hg hl)
  refine b_args (g_cell D hi hc ?_ hk hl')
  refine b_args (b_int ?_)
  refine b_args_nil ?_
  exact ⟨S.here D.stay, call_take S R hn D k⟩
theorem c_more {n : Int} {c : Addr} {xpos npos bpos pos : Pos} {kk : Nat} {Q : Value → Shared → Prop} (i : Nat) (S : Stat w base) (R : Room A 1) (hn : 0 < n) (D : Led base h₀ l₀ L h m (boxL bx si ++ rest)) (hi : (boxL bx si ++ rest)[i]? = some (c, cellP (some (.ref bx)))) (hc : env.cells.lookup (Str.ofString "box") = some c)
    (k : ∀ r h' tk' t, 0 ≤ r → r < n → Led base h₀ l₀ L h' m (boxL bx si ++ rest) → Q (.int r t) ⟨h', g, d, tk', os⟩)
    (hk : env.scope.kind = .function) (hg : env.globals = mainGlobals) (hl : env.kindOf (Str.ofString "_law_more") = some .globalImplicit) (hl' : env.kindOf (Str.ofString "box") = some .cell) :
    wpB (model prog w) A (eval (.Call (.Name (Str.ofString "_law_more") xpos) [.Name (Str.ofString "box") bpos, .Constant (.int n) kk npos] [] pos) env) Q NoE ⟨h, g, d, tk, os⟩ := by
  refine b_CallN (g_global S D (glob_more _) (b_cwK (first := []) (keep_236 _) ?_ rfl) hk hg hl)
  refine b_args (g_cell D hi hc ?_ hk hl')
  refine b_args (b_int ?_)
  refine b_args_nil ?_
  exact ⟨S.here D.stay, call_more S R hn D k⟩
end
end Mine
end

noncomputable section
set_option maxHeartbeats 8000000

namespace Mine
open PySem PySem.Calls PyProof.Rows PySem.W

theorem slice_piece (vs : List Value) (q z : Nat) (hq : q < vs.length) : (slicePick vs.toArray (some (q : Int)) (some ((q + z : Nat) : Int)) none).toList = (vs.drop q).take z := by
  rw [slicePick_plain]
  simp only [Option.elim_some, List.size_toArray, clipAt_nat]
  rw [Nat.min_eq_left (Nat.le_of_lt hq)]
  by_cases h : q + z ≤ vs.length
  · rw [Nat.min_eq_left h]
    simp
  · rw [Nat.min_eq_right (by omega)]
    rw [List.take_of_length_le (by simp), List.take_of_length_le (by simp; omega)]

structure LrV (u li sn oc : Addr) (ev : Value) (lsx : List (Str × Value)) : Prop where
  uart : lsx.lookup (Str.ofString "uart") = some (.ref u)
  line : lsx.lookup (Str.ofString "line") = some (.ref li)
  end_ : lsx.lookup (Str.ofString "end") = some ev
  sent : lsx.lookup (Str.ofString "sent") = some (.ref sn)
  octets : lsx.lookup (Str.ofString "octets") = some (.ref oc)

noncomputable def lrL (P : Params) (Δ : DevA) (bx si li : Addr) (line out wait ready ln : List UInt8) (T : List Item) : List Item :=
  (boxL bx si ++ [(li, ilP (ofB line))]) ++ (dev P Δ out wait ready ln ++ T)
noncomputable def lrT (sn c1 con bx oc : Addr) (sv ov : List Value) (v3 : Option Value) : List Item :=
  [(sn, lstP sv), (c1, cellP (some (.ref bx))), (c1 + 1, cellP (some (.ref con))), (c1 + 1 + 1, cellP v3), (oc, lstP ov)]
noncomputable def lrC (c1 : Addr) : List (Str × Addr) := [(Str.ofString "counts", c1 + 1 + 1), (Str.ofString "console", c1 + 1), (Str.ofString "box", c1)]

section
variable {prog : Program} {w : World} {A : Around} {E : Value → Shared → Prop} {base h₀ h : Heap} {l₀ l : List Item} {L : Addr} {g : Array GenState} {d : Drawn} {tk : Nat} {os : OsState} {ls : List (Str × Value)} {m : Str → Option Value} {a : Addr} {cl : List (Str × Addr)} {i j : Nat} {x y : Addr} {env : Env} {bx si : Addr} {rest : List Item}

/-- the typing loop -/
theorem lr_loop {Δ : DevA} {li sn oc c1 : Addr} {line octs echo : List UInt8} {sv ov : List Value} {v3 : Option Value} {e : UInt8} {te : Tok} {Q : Flow → Shared → Prop} (S : Stat w base) (R : Room A 4) (H : Octs line e octs echo) (hz : line.length ≤ 20) (hov : BytesAre ov octs)
    {hx : Heap} {tk : Nat} {lsx : List (Str × Value)} {tq : Tok} {stmt : Stmt} (hst : nth body262 1 = stmt) (V : LrV Δ.u li sn oc (.int (e.toNat : Int) te) lsx) (hp : lsx.lookup (Str.ofString "place") = some (.int 0 tq))
    (D : Led base h₀ l₀ L hx (Vars lsx) (lrL w.params Δ bx si li line [] [] [] [] (lrT sn c1 Δ.c bx oc sv ov v3)))
    (fin : ∀ (hx : Heap) (tk : Nat) (lsx : List (Str × Value)) (aw al : Addr), LrV Δ.u li sn oc (.int (e.toNat : Int) te) lsx →
      Led base h₀ l₀ L hx (Vars lsx) (lrL w.params { Δ with aw := aw, al := al } bx si li line echo [] (line ++ [endC e]) [] (lrT sn c1 Δ.c bx oc sv ov v3)) → Q .next ⟨hx, g, d, tk, os⟩) :
    wpB (model prog w) A (exec stmt (envK w.params 262 L (lrC c1))) Q NoE ⟨hx, g, d, tk, os⟩ := by
  have hovl : ov.length = octs.length := by rw [hov.length, ofB_len]
  have hol := H.len
  subst hst
  refine b_While (fun n s => ∃ (q : Nat) (aw al : Addr) (hx : Heap) (tk : Nat) (lsx : List (Str × Value)) (tq : Tok), s = ⟨hx, g, d, tk, os⟩ ∧ n = octs.length - q ∧ LrV Δ.u li sn oc (.int (e.toNat : Int) te) lsx ∧ lsx.lookup (Str.ofString "place") = some (.int (q : Int) tq) ∧ 
      Led base h₀ l₀ L hx (Vars lsx) (lrL w.params { Δ with aw := aw, al := al } bx si li line (takeF (octs.take q) [] []).1 [] (takeF (octs.take q) [] []).2.1 (takeF (octs.take q) [] []).2.2 (lrT sn c1 Δ.c bx oc sv ov v3))) octs.length
    ⟨0, Δ.aw, Δ.al, hx, tk, lsx, tq, rfl, rfl, V, hp, D⟩ ?_
  rintro n s ⟨q, aw, al, hx, tk, lsx, tq, rfl, rfl, V, hp, D⟩
  refine b_isTrue_Compare ?_
  refine b_local D hp ?_
  refine b_callBlt S D PySem.boot_len ?_
  refine b_args ?_
  refine b_local D V.octets ?_
  refine b_args_nil ?_
  refine l_lenL (i := 15) D rfl lst_any (by omega) fun _ tk₂ => ?_
  refine of_any (lt_int ?_)
  refine b_truthy_bool ?_
  by_cases hq : q < octs.length
  · rw [if_pos (by simp; omega)]
    have hrd := H.ahead hq
    have hol' := H.outLen q
    -- size = 1 + _law_take(box, 4)
    refine b_execs_cons ?_
    refine b_Assign ?_ (by kernel_rfl) (by kernel_rfl)
    refine b_BinOp ?_
    refine b_int ?_
    refine c_take (bx := bx) (si := si) (c := c1) 12 S (R.less (by omega)) (by decide) D rfl rfl (fun r h₃ tk₃ t₃ hr0 hr4 D => ?_) (by kernel_rfl) rfl (by kernel_rfl) (by kernel_rfl)
    obtain ⟨z, rfl⟩ := Int.eq_ofNat_of_zero_le hr0
    refine of_any (add_int ?_)
    have ez : (1 : Int) + (z : Int) = ((1 + z : Nat) : Int) := by omega
    rw [ez]
    refine b_assign_Name ?_
    refine b_store D fun h₄ tk₄ D => ?_
    -- if console.read(1 + _law_more(box, 3)) is not None: return False
    refine b_execs_cons ?_
    refine b_If ?_
    refine b_isTrue_Compare ?_
    refine b_CallO ?_
    refine g_cell D (i := 13) (c := c1 + 1) rfl rfl ?_ (by kernel_rfl) (by kernel_rfl)
    refine b_meth 7 8 S D rfl rfl rfl (f := 215) (by kernel_rfl) ?_
    dsimp only
    refine b_cwK (keep_215 _) ?_
    refine b_args ?_
    refine b_BinOp ?_
    refine b_int ?_
    refine c_more (bx := bx) (si := si) (c := c1) 12 S (R.less (by omega)) (by decide) D rfl rfl (fun r h₅ tk₅ t₅ hr0' hr3 D => ?_) (by kernel_rfl) rfl (by kernel_rfl) (by kernel_rfl)
    obtain ⟨y, rfl⟩ := Int.eq_ofNat_of_zero_le hr0'
    refine of_any (add_int ?_)
    have ey : (1 : Int) + (y : Int) = ((1 + y : Nat) : Int) := by omega
    rw [ey]
    refine b_args_nil ?_
    rw [hrd] at D
    have D : Led base h₀ l₀ L h₅ _ ((boxL bx si ++ [(li, ilP (ofB line))]) ++ (dev w.params { Δ with aw := aw, al := al } (takeF (octs.take q) [] []).1 [] [] (takeF (octs.take q) [] []).2.2 ++ lrT sn c1 Δ.c bx oc sv ov v3)) := D
    refine ⟨S.here D.stay, read_none (Δ := { Δ with aw := aw, al := al }) S (R.less (by omega)) (by omega) D.own.mid fun h₆ tk₆ O' S' => ?_⟩
    have D := D.callMid O' S'
    refine b_none ?_
    refine of_any (isnot_none_none ?_)
    refine b_truthy_bool ?_
    rw [if_neg (by decide)]
    refine b_execs_nil ?_
    -- uart.feed(bytes(octets[place:place + size]))
    refine b_execs_cons ?_
    refine b_Expr ?_ (by kernel_rfl) (by kernel_rfl)
    refine b_CallO ?_
    refine b_local D V.uart ?_
    refine b_meth 3 4 S D rfl rfl rfl (f := 76) (by kernel_rfl) ?_
    dsimp only
    refine b_cwK (keep_76 _) ?_
    refine b_args ?_
    refine b_callBlt S D PyProof.Rows.boot_bytes ?_
    refine b_args ?_
    refine b_SliceOf ?_
    refine b_local D V.octets ?_
    refine b_part_some ?_
    refine b_local D hp ?_
    refine b_part_some ?_
    refine b_BinOp ?_
    refine b_local D hp ?_
    refine b_local D rfl ?_
    refine of_any (add_int ?_)
    have eqz : (q : Int) + ((1 + z : Nat) : Int) = ((q + (1 + z) : Nat) : Int) := by omega
    rw [eqz]
    refine l_sliceL (i := 15) D rfl lst_any (.int _ _) (.int _ _) (by omega) fun n₁ h₇ tk₇ D => ?_
    rw [slice_piece ov q (1 + z) (by omega)] at D
    refine b_args_nil ?_
    have hpl : ((octs.drop q).take (1 + z)).length ≤ 4 := by rw [List.length_take]; omega
    refine l_bytesInts R.hand D (i := 0) rfl (ns := ofB ((octs.drop q).take (1 + z))) (by rw [ofB_take, ofB_drop]; exact (hov.drop q).take _) (ofB_in _) (by rw [List.length_take, List.length_drop]; omega) fun h₈ tk₈ t₈ D => ?_
    rw [byteArr_ofB]
    have D := D.drop1
    refine b_args_nil ?_
    have D : Led base h₀ l₀ L h₈ _ ((boxL bx si ++ [(li, ilP (ofB line))]) ++ (dev w.params { Δ with aw := aw, al := al } (takeF (octs.take q) [] []).1 [] [] (takeF (octs.take q) [] []).2.2 ++ lrT sn c1 Δ.c bx oc sv ov v3)) := D
    refine ⟨S.here D.stay, feed_spec (Δ := { Δ with aw := aw, al := al }) S (R.less (by omega)) D.own.mid (by simpa using hpl) fun h₉ tk₉ O' S' => ?_⟩
    have D := D.callMid O' S'
    refine ⟨(by nofun), ?_⟩
    -- place = place + size
    refine b_execs_cons ?_
    refine b_Assign ?_ (by kernel_rfl) (by kernel_rfl)
    refine b_BinOp ?_
    refine b_local D hp ?_
    refine b_local D rfl ?_
    refine of_any (add_int ?_)
    rw [eqz]
    refine b_assign_Name ?_
    refine b_store D fun h₁₀ tk₁₀ D => ?_
    -- if console.take() != (place >= len(octets)) or uart.receive() is not None: return False
    refine b_execs_cons ?_
    refine b_If ?_
    refine b_isTrue_Or ?_
    refine b_isTrue_Compare ?_
    refine b_CallO ?_
    refine g_cell D (i := 13) (c := c1 + 1) rfl rfl ?_ (by kernel_rfl) (by kernel_rfl)
    refine b_meth 7 8 S D rfl rfl rfl (f := 187) (by kernel_rfl) ?_
    dsimp only
    refine b_cwK (keep_187 _) ?_
    refine b_args_nil ?_
    obtain ⟨hok, hall⟩ := H.piece q (1 + z)
    rw [hrd] at hok hall
    have hout := H.outLen (q + (1 + z))
    rw [hall] at hout
    dsimp only at hout
    have hrdl : (takeF ((octs.drop q).take (1 + z)) [] (takeF (octs.take q) [] []).2.2).2.1.length ≤ 1000 := by
      by_cases hlt : q + (1 + z) < octs.length
      · have := H.ahead hlt
        rw [hall] at this
        dsimp only at this
        rw [this]; decide
      · have := H.behind (q := q + (1 + z)) (by omega)
        rw [hall] at this
        have := congrArg (fun x => x.2.1.length) this
        dsimp only at this
        rw [this]; simp; omega
    have D : Led base h₀ l₀ L h₁₀ _ ((boxL bx si ++ [(li, ilP (ofB line))]) ++ (dev w.params { Δ with aw := aw, al := al } (takeF (octs.take q) [] []).1 ((octs.drop q).take (1 + z)) [] (takeF (octs.take q) [] []).2.2 ++ lrT sn c1 Δ.c bx oc sv ov v3)) := D
    refine ⟨S.here D.stay, take_spec (Δ := { Δ with aw := aw, al := al }) S R D.own.mid (by omega) hok (by omega) hrdl fun al' aw' h₁₁ tk₁₁ O' S' => ?_⟩
    have D := D.callMid O' S'
    have e1 := (congrArg (·.1) hall).symm
    have e2 := (congrArg (·.2.1) hall).symm
    have e3 := (congrArg (·.2.2) hall).symm
    dsimp only at e1 e2 e3
    rw [e1, e2, e3] at D
    refine b_Compare ?_
    refine b_local D rfl ?_
    refine b_callBlt S D PySem.boot_len ?_
    refine b_args ?_
    refine b_local D V.octets ?_
    refine b_args_nil ?_
    refine l_lenL (i := 15) D rfl lst_any (by omega) fun _ tk₁₂ => ?_
    refine of_any (ge_int ?_)
    refine of_any (ne_bool ?_)
    refine b_truthy_bool ?_
    have esame : (decide (0 < (takeF ((octs.drop q).take (1 + z)) [] (takeF (octs.take q) [] []).2.2).2.1.length) != decide ((ov.length : Int) ≤ ((q + (1 + z) : Nat) : Int))) = false := by
      rw [bne_eq_false_iff_eq, decide_eq_decide]
      by_cases hlt : q + (1 + z) < octs.length
      · have := H.ahead hlt
        rw [hall] at this
        dsimp only at this
        rw [this]
        simp; omega
      · have := H.behind (q := q + (1 + z)) (by omega)
        rw [hall] at this
        have := congrArg (fun x => x.2.1.length) this
        dsimp only at this
        rw [this]; simp; omega
    rw [esame, if_neg (by decide)]
    refine b_isTrue_Compare ?_
    refine b_CallO ?_
    refine b_local D V.uart ?_
    refine b_meth 3 4 S D rfl rfl rfl (f := 97) (by kernel_rfl) ?_
    dsimp only
    refine b_cwK (keep_97 _) ?_
    refine b_args_nil ?_
    refine ⟨S.here D.stay, receive_nil (Δ := { Δ with aw := aw', al := al' }) S (R.less (by omega)) D.own.mid fun h₁₃ tk₁₃ O' S' => ?_⟩
    have D := D.callMid O' S'
    refine b_none ?_
    refine of_any (isnot_none_none ?_)
    refine b_truthy_bool ?_
    rw [if_neg (by decide)]
    refine b_execs_nil (b_execs_nil ?_)
    exact ⟨octs.length - (q + (1 + z)), by omega, q + (1 + z), aw', al', h₁₃, tk₁₃, (Str.ofString "place", .int ((q + (1 + z) : Nat) : Int) _) :: (Str.ofString "size", .int ((1 + z : Nat) : Int) _) :: lsx, _, rfl, rfl, ⟨V.uart, V.line, V.end_, V.sent, V.octets⟩, rfl, D⟩
  · rw [if_neg (by simp; omega)]
    rw [H.behind (by omega)] at D
    exact fin _ _ _ _ _ V D
end
end Mine
end

noncomputable section
set_option maxHeartbeats 8000000

namespace Mine
open PySem PySem.Calls PyProof.Rows PySem.W

theorem mod3' (n : Nat) : ((n : Int).fmod (3 : Int)) = ((n % 3 : Nat) : Int) := mod3 n
theorem chunkF_len (f : Nat → Nat) : ∀ (n i : Nat) (l : List UInt8), (chunkF f n i l).length ≤ n
  | 0, _, _ => Nat.zero_le _
  | n + 1, i, l => by
    unfold chunkF
    split
    · exact Nat.zero_le _
    · rw [List.length_cons]; exact Nat.succ_le_succ (chunkF_len f n _ _)
theorem dueF_len (cs : List Nat) (line : List UInt8) (e : UInt8) : (dueF cs line e).length ≤ 31 := by
  unfold dueF
  rw [List.length_append]
  have := chunkF_len (cntF cs) 30 0 (leftF line e)
  split <;> simp <;> omega

section
variable {prog : Program} {w : World} {A : Around} {E : Value → Shared → Prop} {base h₀ h : Heap} {l₀ l : List Item} {L : Addr} {g : Array GenState} {d : Drawn} {tk : Nat} {os : OsState} {ls : List (Str × Value)} {m : Str → Option Value} {a : Addr} {cl : List (Str × Addr)} {i j : Nat} {x y : Addr} {env : Env} {bx si : Addr} {rest : List Item}

/-- behind the typing: the reads and the answer -/
theorem lr_tail {Δ : DevA} {li sn oc c1 : Addr} {line echo : List UInt8} {sv ov : List Value} {e : UInt8} {te : Tok} {Q : Flow → Shared → Prop} (S : Stat w base) (R : Room A 4) (hl : ∀ c ∈ line, letter c) (hz : line.length ≤ 20) (he : e = 10 ∨ e = 13 ∨ e = 4)
    (hsv : sv.length ≤ 100) (hel : echo.length ≤ 1000)
    {hx : Heap} {tk : Nat} {lsx : List (Str × Value)} (V : LrV Δ.u li sn oc (.int (e.toNat : Int) te) lsx)
    (D : Led base h₀ l₀ L hx (Vars lsx) (lrL w.params Δ bx si li line echo [] (line ++ [endC e]) [] (lrT sn c1 Δ.c bx oc sv ov none)))
    (fin : ∀ (hx : Heap) (tk : Nat) (lsx : List (Str × Value)) (ao aw ar al : Addr) (t : Tok),
      Led base h₀ l₀ L hx (Vars lsx) (lrL w.params { Δ with ao := ao, aw := aw, ar := ar, al := al } bx si li line [] [] [] [] [(sn, lstP (sv ++ [.bytes echo.toArray t]))]) → Q (.ret (.bool true)) ⟨hx, g, d, tk, os⟩) :
    wpB (model prog w) A (execs (body262.drop 2) (envK w.params 262 L (lrC c1))) Q NoE ⟨hx, g, d, tk, os⟩ := by
  -- counts = [1 + _law_take(box, 5) for k in range(3)]
  refine b_execs_cons ?_
  refine b_Assign ?_ (by kernel_rfl) (by kernel_rfl)
  refine b_CompRange (g := g) (d := d) (os := os) (cl := [(Str.ofString "box", c1)]) (m := Vars lsx) (L := L) (base := base) (h₀ := h₀) (l₀ := l₀) R.hand (by kernel_rfl) (by kernel_rfl) (by kernel_rfl) (by kernel_rfl) (by kernel_rfl) ?_
  refine b_callBlt S D boot_range' ?_
  refine b_args ?_
  refine b_int ?_
  refine b_args_nil ?_
  refine l_range (n := 3) D fun r h₁ tk₁ D => ?_
  refine ⟨3, r, h₁, tk₁, _, fun i l vs => l = lrL w.params Δ bx si li line echo [] (line ++ [endC e]) [] (lrT sn c1 Δ.c bx oc sv ov none) ∧ ∃ cs : List Nat, IntsAre vs (ofN cs) ∧ cs.length = i ∧ ∀ c ∈ cs, 1 ≤ c, rfl, rfl, by decide, D, ⟨rfl, [], .nil, rfl, by simp⟩, ?_, ?_⟩
  · rintro i C t hx tk l it acc vs hi ⟨rfl, cs, hcs, hcl, hc1⟩ D
    have D := D.pick [3, 4, 0, 1, 2, 5, 6, 7, 8, 9, 10, 11, 12, 13, 14, 15, 16, 17, 18]
    refine b_BinOp ?_
    refine b_int ?_
    refine c_take (bx := bx) (si := si) (c := c1) 15 S (R.less (by omega)) (by decide) D rfl rfl (fun r h₃ tk₃ t₃ hr0 hr4 D => ?_) (by kernel_rfl) rfl (by kernel_rfl) (by kernel_rfl)
    obtain ⟨z, rfl⟩ := Int.eq_ofNat_of_zero_le hr0
    refine of_any (add_int ?_)
    have ez : (1 : Int) + (z : Int) = ((1 + z : Nat) : Int) := by omega
    rw [ez]
    have D := D.pick [2, 3, 4, 0, 1, 5, 6, 7, 8, 9, 10, 11, 12, 13, 14, 15, 16, 17, 18]
    refine ⟨_, _, _, rfl, ⟨rfl, cs ++ [1 + z], ?_, by simp [hcl], ?_⟩, D⟩
    · unfold ofN; rw [List.map_append]; exact hcs.append (.cons _ _ .nil)
    · intro c hc
      rcases List.mem_append.mp hc with hc | hc
      · exact hc1 c hc
      · rw [List.mem_singleton.mp hc]; omega
  rintro h₂ tk₂ l ci cv hcv3 ⟨rfl, cs, hcs, hcl, hc1⟩ D
  -- the cell counts
  refine b_assign_Name ?_
  refine g_setCell (i := 15) (c := c1 + 1 + 1) D rfl rfl (fun h₃ tk₃ D => ?_) (by kernel_rfl) (by kernel_rfl)
  have D := D.say (i := 0) (P := lstP cv) (P' := ilP (ofN cs)) rfl fun o _ h => ⟨cv, hcs, h⟩
  -- due = _law_reads(line, end, counts)
  have D := D.pick [3, 0, 1, 2, 4, 5, 6, 7, 8, 9, 10, 11, 12, 13, 14, 15]
  refine b_execs_cons ?_
  refine b_Assign ?_ (by kernel_rfl) (by kernel_rfl)
  refine b_callDef S D (glob_reads _) (keep_257 _) ?_
  refine b_args ?_
  refine b_local D V.line ?_
  refine b_args ?_
  refine b_local D V.end_ ?_
  refine b_args ?_
  refine g_cell D (i := 15) (c := c1 + 1 + 1) rfl rfl ?_ (by kernel_rfl) (by kernel_rfl)
  refine b_args_nil ?_
  have D : Led base h₀ l₀ L h₃ _ ([(li, ilP (ofB line)), (ci, ilP (ofN cs))] ++ (boxL bx si ++ (dev w.params Δ echo [] (line ++ [endC e]) [] ++ [(sn, lstP sv), (c1, cellP (some (.ref bx))), (c1 + 1, cellP (some (.ref Δ.c))), (c1 + 1 + 1, cellP (some (.ref ci)))]))) := D
  refine ⟨S.here D.stay, reads_spec S (R.less (by omega)) hz hcl hc1 D.own.left fun du dv h₄ tk₄ hdv O' S' => ?_⟩
  have D := D.call O' S'
  refine b_assign_Name ?_
  refine b_store D fun h₅ tk₅ D => ?_
  have hdl := dueF_len cs line e
  have hdvl := hdv.length
  -- order: box 0 1, li 2, dev 3..10, sn 11, c1 12, c2 13, c3 14, ci 15, du 16
  have D := D.pick [3, 4, 0, 5, 6, 7, 8, 9, 10, 11, 12, 13, 14, 15, 16, 1, 2]
  have D : Led base h₀ l₀ L h₅ _ ((boxL bx si ++ [(li, ilP (ofB line))]) ++ (dev w.params Δ echo [] (line ++ [endC e]) [] ++ [(sn, lstP sv), (c1, cellP (some (.ref bx))), (c1 + 1, cellP (some (.ref Δ.c))), (c1 + 1 + 1, cellP (some (.ref ci))), (ci, ilP (ofN cs)), (du, lstP dv)])) := D
  -- told = [console.read(0)] + [...]
  refine b_execs_cons ?_
  refine b_Assign ?_ (by kernel_rfl) (by kernel_rfl)
  refine b_BinOp ?_
  refine b_List ?_
  refine b_args ?_
  refine b_CallO ?_
  refine g_cell D (i := 13) (c := c1 + 1) rfl rfl ?_ (by kernel_rfl) (by kernel_rfl)
  refine b_meth 7 8 S D rfl rfl rfl (f := 215) (by kernel_rfl) ?_
  dsimp only
  refine b_cwK (keep_215 _) ?_
  refine b_args ?_
  refine b_int ?_
  refine b_args_nil ?_
  refine ⟨S.here D.stay, read_zero S (R.less (by omega)) D.own.mid fun h₆ tk₆ t₆ O' S' => ?_⟩
  have D := D.callMid O' S'
  refine b_args_nil ?_
  refine l_newList D fun n₁ h₇ tk₇ D => ?_
  have D := D.pick [1, 2, 3, 4, 5, 6, 7, 8, 9, 10, 11, 12, 13, 14, 15, 16, 17, 0]
  obtain ⟨cv', hcv', D⟩ := D.ints (i := 15) (x := ci) (ns := ofN cs) rfl
  have hcvl : cv'.length = 3 := by rw [hcv'.length, ofN_len, hcl]
  have D : Led base h₀ l₀ L h₇ _ ((boxL bx si ++ [(li, ilP (ofB line))]) ++ (dev w.params Δ echo [] (line ++ [endC e]) [] ++ [(sn, lstP sv), (c1, cellP (some (.ref bx))), (c1 + 1, cellP (some (.ref Δ.c))), (c1 + 1 + 1, cellP (some (.ref ci))), (ci, lstP cv'), (du, lstP dv), (n₁, lstP [.bytes #[] t₆])])) := D
  refine b_CompRange (g := g) (d := d) (os := os) (cl := [(Str.ofString "counts", c1 + 1 + 1), (Str.ofString "console", c1 + 1)]) (L := L) (base := base) (h₀ := h₀) (l₀ := l₀) (m := Vars ((Str.ofString "due", .ref du) :: lsx)) R.hand (by kernel_rfl) (by kernel_rfl) (by kernel_rfl) (by kernel_rfl) (by kernel_rfl) ?_
  refine b_callBlt S D boot_range' ?_
  refine b_args ?_
  refine b_callBlt S D PySem.boot_len ?_
  refine b_args ?_
  refine b_local D rfl ?_
  refine b_args_nil ?_
  refine l_lenL (i := 16) D rfl lst_any (by omega) fun _ tk₈ => ?_
  refine b_args_nil ?_
  refine l_range (n := dv.length) D fun r₂ h₉ tk₉ D => ?_
  refine ⟨dv.length, r₂, h₉, tk₉, _, fun i l vs => ∃ (ar : Addr) (ready : List UInt8) (told rest : List (List UInt8)), l = (boxL bx si ++ [(li, ilP (ofB line))]) ++ (dev w.params { Δ with ar := ar } echo [] ready [] ++ [(sn, lstP sv), (c1, cellP (some (.ref bx))), (c1 + 1, cellP (some (.ref Δ.c))), (c1 + 1 + 1, cellP (some (.ref ci))), (ci, lstP cv'), (du, lstP dv), (n₁, lstP [.bytes #[] t₆])]) ∧
      BytsAre vs told ∧ told.length = i ∧ told ++ rest = dueF cs line e ∧ RestF (cntF cs) e i ready rest ∧ ready.length ≤ 100, rfl, rfl, by omega, D,
      ⟨Δ.ar, line ++ [endC e], [], dueF cs line e, rfl, .nil, rfl, rfl, restF_start he hl hz, by simp; omega⟩, ?_, ?_⟩
  · rintro i C t hx tk l it acc vs hi ⟨ar, ready, told, rest, rfl, hvs, htl, hdue, hR, hrl⟩ D
    have hdl' := congrArg List.length hdue
    rw [List.length_append, htl] at hdl'
    cases rest with
    | nil => simp at hdl'; omega
    | cons b rest =>
      have hcnt : cs.getD (i % 3) 1 = cntF cs i := rfl
      have hcp : 1 ≤ cntF cs i := by
        unfold cntF
        rw [List.getD_eq_getElem?_getD]
        cases hq : cs[i % 3]? with
        | none => exact Nat.le_refl _
        | some c => exact hc1 c (List.mem_of_getElem? hq)
      obtain ⟨hne, rfl, hR'⟩ := restF_step hR hcp
      refine b_CallO ?_
      refine g_cell D (i := 16) (c := c1 + 1) rfl rfl ?_ (by kernel_rfl) (by kernel_rfl)
      refine b_meth 10 11 S D rfl rfl rfl (f := 215) (by kernel_rfl) ?_
      dsimp only
      refine b_cwK (keep_215 _) ?_
      refine b_args ?_
      refine b_Item ?_
      refine g_cell D (i := 17) (c := c1 + 1 + 1) rfl rfl ?_ (by kernel_rfl) (by kernel_rfl)
      refine b_BinOp ?_
      refine g_local D (i := 0) rfl rfl rfl ?_ (by kernel_rfl) (by kernel_rfl)
      refine b_int ?_
      refine of_any (mod_int (by decide) ?_)
      rw [mod3']
      obtain ⟨tc, hct⟩ := nat_at hcv' (k := i % 3) (by rw [hcl]; omega)
      refine l_itemL (i := 18) D rfl lst_any (by omega) (by rw [Int.toNat_natCast]; exact hct) (by omega) ?_
      rw [hcnt]
      refine b_args_nil ?_
      have D : Led base h₀ l₀ L hx _ (([(C, nsP (Vars [(Str.ofString "k", .int (i : Int) t)])), (it, ritP dv.length (i + 1)), (acc, lstP vs)] ++ (boxL bx si ++ [(li, ilP (ofB line))])) ++ (dev w.params { Δ with ar := ar } echo [] ready [] ++ [(sn, lstP sv), (c1, cellP (some (.ref bx))), (c1 + 1, cellP (some (.ref Δ.c))), (c1 + 1 + 1, cellP (some (.ref ci))), (ci, lstP cv'), (du, lstP dv), (n₁, lstP [.bytes #[] t₆])])) := D
      refine ⟨S.here D.stay, read_some (Δ := { Δ with ar := ar }) S (R.less (by omega)) hcp hne (by omega) D.own.mid fun ar' h₁₀ tk₁₀ t₁₀ O' S' => ?_⟩
      have D := D.callMid O' S'
      refine ⟨_, _, _, rfl, ⟨ar', _, told ++ [ready.take (manyF (cntF cs i) ready)], rest, rfl, hvs.append (.cons _ _ .nil), by simp [htl], by rw [← hdue]; simp, hR', ?_⟩, D⟩
      exact Nat.le_trans (by rw [List.length_drop]; omega) hrl
  rintro h₁₀ tk₁₀ l ac vs hvl ⟨ar, ready, told, rest, rfl, hvs, htl, hdue, hR, hrl⟩ D
  have hdl' := congrArg List.length hdue
  rw [List.length_append, htl] at hdl'
  obtain rfl : rest = [] := List.length_eq_zero_iff.mp (by omega)
  obtain rfl := restF_end hR
  rw [List.append_nil] at hdue
  subst hdue
  refine l_addL (i := 18) (j := 0) D rfl rfl (by simp; omega) fun td h₁₁ tk₁₁ D => ?_
  refine b_assign_Name ?_
  refine b_store D fun h₁₂ tk₁₂ D => ?_
  have D := D.pick [2, 3, 4, 5, 6, 7, 8, 9, 10, 11, 12, 13, 14, 15, 18, 0]
  have D : Led base h₀ l₀ L h₁₂ _ ((boxL bx si ++ [(li, ilP (ofB line))]) ++ (dev w.params { Δ with ar := ar } echo [] [] [] ++ [(sn, lstP sv), (c1, cellP (some (.ref bx))), (c1 + 1, cellP (some (.ref Δ.c))), (du, lstP dv), (td, lstP ([.bytes #[] t₆] ++ vs))])) := D
  -- sent.append(uart.take_out())
  refine b_execs_cons ?_
  refine b_Expr ?_ (by kernel_rfl) (by kernel_rfl)
  refine b_CallO ?_
  refine b_local D V.sent ?_
  refine l_methL (i := 11) D rfl PySem.F.slot_list_append PySem.F.type_list_append ?_
  dsimp only
  refine b_cwB ?_
  refine b_args ?_
  refine b_CallO ?_
  refine b_local D V.uart ?_
  refine b_meth 3 4 S D rfl rfl rfl (f := 83) (by kernel_rfl) ?_
  dsimp only
  refine b_cwK (keep_83 _) ?_
  refine b_args_nil ?_
  refine ⟨S.here D.stay, take_out_spec (Δ := { Δ with ar := ar }) S (R.less (by omega)) D.own.mid (by omega) fun ao h₁₃ tk₁₃ t₁₃ O' S' => ?_⟩
  have D := D.callMid O' S'
  refine b_args_nil ?_
  refine l_appendL (i := 11) D rfl (by omega) fun h₁₄ tk₁₄ D => ?_
  refine ⟨(by nofun), ?_⟩
  -- return told == [b''] + due and console.read(7) is None and (not console.take())
  refine b_execs_cons (b_Return_some ?_)
  refine b_And3 ?_
  refine b_Compare ?_
  refine b_local D rfl ?_
  refine b_BinOp ?_
  refine b_List ?_
  refine b_args ?_
  refine b_bytes ?_
  refine b_args_nil ?_
  refine l_newList D fun n₂ h₁₅ tk₁₅ D => ?_
  refine b_local D rfl ?_
  refine l_addL (i := 0) (j := 15) D rfl rfl (by simp; omega) fun n₃ h₁₆ tk₁₆ D => ?_
  refine l_eqByts (i := 17) (j := 0) (bs := [[]] ++ dueF cs line e) D rfl rfl ((BytsAre.cons [] _ .nil).append hvs) ((BytsAre.cons [] _ .nil).append hdv) R.cline ?_
  refine b_truthy_bool ?_
  rw [if_pos rfl]
  have D := D.pick [2, 3, 4, 5, 6, 7, 8, 9, 10, 11, 12, 13, 14, 15]
  have D : Led base h₀ l₀ L h₁₆ _ ((boxL bx si ++ [(li, ilP (ofB line))]) ++ (dev w.params { Δ with ar := ar, ao := ao } [] [] [] [] ++ [(sn, lstP (sv ++ [.bytes echo.toArray t₁₃])), (c1, cellP (some (.ref bx))), (c1 + 1, cellP (some (.ref Δ.c)))])) := D
  refine b_Compare ?_
  refine b_CallO ?_
  refine g_cell D (i := 13) (c := c1 + 1) rfl rfl ?_ (by kernel_rfl) (by kernel_rfl)
  refine b_meth 7 8 S D rfl rfl rfl (f := 215) (by kernel_rfl) ?_
  dsimp only
  refine b_cwK (keep_215 _) ?_
  refine b_args ?_
  refine b_int ?_
  refine b_args_nil ?_
  refine ⟨S.here D.stay, read_none (n := 7) (Δ := { Δ with ar := ar, ao := ao }) S (R.less (by omega)) (by omega) D.own.mid fun h₁₇ tk₁₇ O' S' => ?_⟩
  have D := D.callMid O' S'
  refine b_none ?_
  refine of_any (is_none_none ?_)
  refine b_truthy_bool ?_
  rw [if_pos rfl]
  refine b_Unary ?_
  refine b_CallO ?_
  refine g_cell D (i := 13) (c := c1 + 1) rfl rfl ?_ (by kernel_rfl) (by kernel_rfl)
  refine b_meth 7 8 S D rfl rfl rfl (f := 187) (by kernel_rfl) ?_
  dsimp only
  refine b_cwK (keep_187 _) ?_
  refine b_args_nil ?_
  refine ⟨S.here D.stay, take_spec (Δ := { Δ with ar := ar, ao := ao }) S R D.own.mid (by decide) trivial (by exact Nat.le_of_ble_eq_true rfl) (by exact Nat.le_of_ble_eq_true rfl) fun al aw h₁₈ tk₁₈ O' S' => ?_⟩
  have D := D.callMid O' S'
  refine of_any (not_of (wpAny_truthy_bool ?_))
  have D := D.pick [0, 1, 2, 3, 4, 5, 6, 7, 8, 9, 10, 11]
  exact fin _ _ _ ao aw ar al t₁₃ D
end
end Mine
end

noncomputable section
set_option maxHeartbeats 8000000

namespace Mine
open PySem PySem.Calls PyProof.Rows PySem.W

section
variable {prog : Program} {w : World} {A : Around} {E : Value → Shared → Prop} {base h₀ h : Heap} {l₀ l : List Item} {L : Addr} {g : Array GenState} {d : Drawn} {tk : Nat} {os : OsState} {ls : List (Str × Value)} {m : Str → Option Value} {a : Addr} {cl : List (Str × Addr)} {i j : Nat} {x y : Addr} {env : Env} {bx si : Addr} {rest : List Item}

theorem right_spec {Δ : DevA} {li sn : Addr} {line : List UInt8} {sv : List Value} {e : UInt8} {te : Tok} {Q : Value → Shared → Prop} (S : Stat w base) (R : Room A 5) (hl : ∀ c ∈ line, letter c) (hz : line.length ≤ 20) (he : e = 10 ∨ e = 13 ∨ e = 4) (hsv : sv.length ≤ 100)
    (O : Own base h (lrL w.params Δ bx si li line [] [] [] [] [(sn, lstP sv)]))
    (k : ∀ ao aw ar al echo t h' tk', EchoOf line e echo → echo.length ≤ 13 + 9 * line.length → Own base h' (lrL w.params { Δ with ao := ao, aw := aw, ar := ar, al := al } bx si li line [] [] [] [] [(sn, lstP (sv ++ [.bytes echo.toArray t]))]) →
      Step h h' (lrL w.params Δ bx si li line [] [] [] [] [(sn, lstP sv)]) (lrL w.params { Δ with ao := ao, aw := aw, ar := ar, al := al } bx si li line [] [] [] [] [(sn, lstP (sv ++ [.bytes echo.toArray t]))]) → Q (.bool true) ⟨h', g, d, tk', os⟩) :
    wpB (model prog w) A (call (.ref 262) [.ref bx, .ref Δ.u, .ref Δ.c, .ref li, .int (e.toNat : Int) te, .ref sn]) Q NoE ⟨h, g, d, tk, os⟩ := by
  have R' : ∀ env, Room (A.deeper env) 4 := fun env => R.deeper
  refine b_callC (a := 262) S O (by kernel_rfl) R.lim (binds := [(Str.ofString "box", .ref bx), (Str.ofString "uart", .ref Δ.u), (Str.ofString "console", .ref Δ.c), (Str.ofString "line", .ref li), (Str.ofString "end", .int (e.toNat : Int) te), (Str.ofString "sent", .ref sn)])
    (by kernel_rfl) (by kernel_rfl) [Str.ofString "counts", Str.ofString "console", Str.ofString "box"] (fun n => by rw [cells262]; rfl) (by decide) fun h₁ tk₁ D => ?_
  rw [body_262]
  rw [cells262] at D ⊢
  rw [pick262] at D
  simp only [List.map_cons, List.map_nil, bind262a, bind262b, bind262c] at D
  have hL : h.objs.size + 1 = h.objs.size + 1 := rfl
  generalize hc1 : h.objs.size + 1 = c1 at D ⊢
  generalize hLL : h.objs.size = L at D ⊢
  have D := D.pick [3, 4, 5, 6, 7, 8, 9, 10, 11, 12, 13, 14, 2, 1, 0]
  have D : Led base h (lrL w.params Δ bx si li line [] [] [] [] [(sn, lstP sv)]) L h₁ (Vars [(Str.ofString "sent", .ref sn), (Str.ofString "end", .int (e.toNat : Int) te), (Str.ofString "line", .ref li), (Str.ofString "uart", .ref Δ.u)])
    ((boxL bx si ++ [(li, ilP (ofB line))]) ++ (dev w.params Δ [] [] [] [] ++ [(sn, lstP sv), (c1, cellP (some (.ref bx))), (c1 + 1, cellP (some (.ref Δ.c))), (c1 + 1 + 1, cellP none)])) := D
  -- octets, place = (_law_typed(box, line) + [end], 0)
  refine b_execs_cons ?_
  refine b_AssignSwap [Str.ofString "octets", Str.ofString "place"] ?_ (by kernel_rfl) (by kernel_rfl)
  refine b_Tuple ?_
  refine b_args ?_
  refine b_BinOp ?_
  refine b_callDef (cl := lrC c1) S D (glob_typed _) (keep_243 _) ?_
  refine b_args ?_
  refine g_cell D (i := 12) (c := c1) rfl rfl ?_ (by kernel_rfl) (by kernel_rfl)
  refine b_args ?_
  refine b_local D rfl ?_
  refine b_args_nil ?_
  refine ⟨S.here D.stay, typed_list S ((R' _).less (by omega)) hz D.own.left fun n made h₂ tk₂ hT O' S' => ?_⟩
  have D := D.call O' S'
  have hml := hT.len
  obtain ⟨mv, hmv, D⟩ := D.ints (i := 3) (x := n) (ns := ofB made) rfl
  have hmvl : mv.length = made.length := by rw [hmv.length, ofB_len]
  refine b_List ?_
  refine b_args ?_
  refine b_local D rfl ?_
  refine b_args_nil ?_
  refine l_newList D fun n₁ h₃ tk₃ D => ?_
  refine l_addL (i := 4) (j := 0) D rfl rfl (by simp; omega) fun oc h₄ tk₄ D => ?_
  refine b_args ?_
  refine b_int ?_
  refine b_args_nil ?_
  refine l_newTuple D fun n₂ h₅ tk₅ D => ?_
  refine l_unpackItems (R' _).hand D (i := 0) rfl rfl fun h₆ tk₆ D => ?_
  refine b_order_cons (b_bindName (b_store D fun h₇ tk₇ D => ?_))
  refine b_order_cons (b_bindName (b_store D fun h₈ tk₈ D => ?_))
  refine b_order_nil ?_
  have D := D.pick [3, 4, 5, 7, 8, 9, 10, 11, 12, 13, 14, 15, 16, 17, 18, 1]
  have H := octs_of hT hl hz he
  refine b_execs_cons ?_
  refine lr_loop S (R' _) H hz (ov := mv ++ [.int (e.toNat : Int) te]) (by show IntsAre _ _; rw [ofB_append]; exact hmv.append (bytes1 e te)) (v3 := none) rfl ⟨rfl, rfl, rfl, rfl, rfl⟩ rfl D fun hx tk lsx aw al V D => ?_
  have hel := H.echoLen
  refine lr_tail (Δ := { Δ with aw := aw, al := al }) S (R' _) hl hz he hsv (by omega) V D fun hx tk lsx ao aw ar al t D => ?_
  exact k ao aw ar al _ t _ _ H.how H.echoLen D.own D.step
end
end Mine
end

noncomputable section
set_option maxHeartbeats 8000000

namespace Mine
open PySem PySem.Calls PyProof.Rows PySem.W

theorem cells267 (P : Params) (n : Nat) : cellsFrom n (namesK P 267) [] = [(Str.ofString "box", n)] := by kernel_rfl
theorem pick267 (P : Params) (v1 : Value) : pickV (namesK P 267) [(Str.ofString "script", v1)] [] = [(Str.ofString "script", v1)] := by kernel_rfl
theorem bind267 (P : Params) (v1 : Value) : bindC (fun n => (namesK P 267).lookup n) [(Str.ofString "script", v1)] (fun _ => none) (Str.ofString "box") = none := by kernel_rfl
theorem bytes_pick {vs : List Value} {bs : List UInt8} (h : BytesAre vs bs) {r : Int} (h0 : 0 ≤ r) (h1 : r < (bs.length : Int)) : ∃ c t, c ∈ bs ∧ vs[r.toNat]? = some (.int (c.toNat : Int) t) := by
  have hl : vs.length = bs.length := by rw [h.length, ofB_len]
  have hlt : r.toNat < vs.length := by omega
  obtain ⟨c, t, hc, e⟩ := bytesAre_at h (i := r.toNat) (v := vs[r.toNat]) (by simp)
  exact ⟨c, t, List.mem_of_getElem? hc, by rw [List.getElem?_eq_getElem hlt, e]⟩

section
variable {prog : Program} {w : World} {A : Around} {E : Value → Shared → Prop} {base h₀ h : Heap} {l₀ l : List Item} {L : Addr} {g : Array GenState} {d : Drawn} {tk : Nat} {os : OsState} {ls : List (Str × Value)} {m : Str → Option Value} {a : Addr} {cl : List (Str × Addr)} {i j : Nat} {x y : Addr} {env : Env} {bx si : Addr} {rest : List Item}

theorem l_sliceAt {lo up : Option Expr} {p : Pos} {u v : Value} {lo' hi' : Option Int} {value : Expr} {vs : List Value} {Q : Value → Shared → Prop} (D : Led base h₀ l₀ L h m l) (hL : base.IsList x vs.toArray)
    (pu : IsPart u lo') (pv : IsPart v hi') (hz : vs.length ≤ 1000)
    (k : ∀ n h' tk', Led base h₀ l₀ L h' m ((n, lstP (slicePick vs.toArray lo' hi' none).toList) :: l) → Q (.ref n) ⟨h', g, d, tk', os⟩) :
    SliceTail (model prog w) A value (.Slice lo up none p) (.ref x) u v Q E ⟨h, g, d, tk, os⟩ := by
  have D1 := D.grow (h' := h.push { cls := .type "slice", data := .fields #[u, v, .none] }) fun b o' e => Heap.get?_push_of_some _ e
  have hL : (h.push { cls := .type "slice", data := .fields #[u, v, .none] }).IsList x vs.toArray := hL.at fun o e => D1.stay _ _ e
  refine slice_tail list_getitem_lookup ⟨hL.typeIs (s := ⟨h.push _, g, d, tk, os⟩), of_any (wpAny_getItem_list_slice (s := ⟨h.push { cls := .type "slice", data := .fields #[u, v, .none] }, g, d, tk, os⟩) hL (Heap.IsSliceOf.new ..) pu pv .none (by simp) ?_ (by rw [List.size_toArray, sizeLine_eq]; omega))⟩
  exact k _ _ _ (D1.push _ ⟨0, rfl⟩)

theorem eqAt_ints {A : Around} {s : Shared} {x y : Addr} {vs ws : List Value} {ns : List Int} (hne : x ≠ y) (hx : s.heap.IsList x vs.toArray) (hy : s.heap.IsList y ws.toArray) (hv : IntsAre vs ns) (hw : IntsAre ws ns) (hu : A.units + 8 < cLine) :
    PySem.SeqAt.EqAt A s (.ref x) (.ref y) true := by
  refine PySem.SeqAt.EqAt.of_refs hne ?_
  have key := PySem.SeqAt.RcAt.lists (A := A) (s := s) (e := fun _ => true) hx hy (by rw [List.size_toArray, List.size_toArray, hv.length, hw.length]) (by omega) (fun n h1 h2 => ?_)
  · rw [List.all_eq_true.mpr (fun _ _ => rfl)] at key; exact key
  · rw [List.size_toArray] at h1 h2
    obtain ⟨a, t, e1, ha⟩ := hv.at n vs[n] (by simp)
    obtain ⟨b, u, e2, hb⟩ := hw.at n ws[n] (by simp)
    rw [ha] at hb; cases hb
    simp only [List.getElem_toArray]
    rw [e1, e2]
    have := PySem.SeqAt.EqAt.int_int (A := A.in1) (s := s) a t a u
    rwa [beq_self_eq_true] at this
theorem l_eqRows {ml ml' : RL} {Q : Value → Shared → Prop} (D : Led base h₀ l₀ L h m l) (hi : l[i]? = some (x, lstP (refsL ml))) (hj : l[j]? = some (y, lstP (refsL ml')))
    (h1 : ∀ p ∈ ml, (p.1, ilP (ofB p.2)) ∈ l) (h2 : ∀ p ∈ ml', (p.1, ilP (ofB p.2)) ∈ l) (hap : ∀ p ∈ ml, ∀ q ∈ ml', p.1 ≠ q.1) (he : ml.map (·.2) = ml'.map (·.2)) (hu : A.units + 64 < cLine)
    (k : Q (.bool true) ⟨h, g, d, tk, os⟩) : wpB (model prog w) A (compareOp .Eq (.ref x) (.ref y)) Q E ⟨h, g, d, tk, os⟩ := by
  have hlen : ml.length = ml'.length := by have := congrArg List.length he; simpa using this
  refine of_any (PySem.SeqAt.eq_listAt (s := ⟨h, g, d, tk, os⟩) (e := fun _ => true) (D.isList hi lst_any) (D.isList hj lst_any) ?_ (by omega) (fun n g1 g2 => ?_) (by rw [List.all_eq_true.mpr (fun _ _ => rfl)]; exact k))
  · rw [List.size_toArray, List.size_toArray]; unfold refsL; rw [List.length_map, List.length_map, hlen]
  · rw [List.size_toArray] at g1 g2
    have n1 : n < ml.length := by unfold refsL at g1; simpa using g1
    have n2 : n < ml'.length := by omega
    have hb : ml[n].2 = ml'[n].2 := by
      have := congrArg (fun l => l[n]?) he
      rw [List.getElem?_map, List.getElem?_map, List.getElem?_eq_getElem n1, List.getElem?_eq_getElem n2] at this
      simpa using this
    have m1 : ml[n] ∈ ml := List.getElem_mem _
    have m2 : ml'[n] ∈ ml' := List.getElem_mem _
    obtain ⟨o, ho, vs, hv, hl1⟩ := D.own.get _ (h1 _ m1)
    obtain ⟨o', ho', ws, hw, hl2⟩ := D.own.get _ (h2 _ m2)
    rw [← hb] at hw
    have e1 : ∀ hh, (refsL ml).toArray[n]'hh = .ref ml[n].1 := fun hh => by simp [refsL]
    have e2 : ∀ hh, (refsL ml').toArray[n]'hh = .ref ml'[n].1 := fun hh => by simp [refsL]
    rw [e1, e2]
    exact eqAt_ints (hap _ m1 _ m2) ⟨o, ho, (lst_any o hl1).1, (lst_any o hl1).2⟩ ⟨o', ho', (lst_any o' hl2).1, (lst_any o' hl2).2⟩ hv hw (by show A.units + 1 + 8 < cLine; omega)

/-- the locals of law's loop -/
structure LawV (u c sn mt or : Addr) (ls : List (Str × Value)) : Prop where
  uart : ls.lookup (Str.ofString "uart") = some (.ref u)
  console : ls.lookup (Str.ofString "console") = some (.ref c)
  sent : ls.lookup (Str.ofString "sent") = some (.ref sn)
  meant : ls.lookup (Str.ofString "meant") = some (.ref mt)
  open_ : ls.lookup (Str.ofString "open_row") = some (.ref or)
/-- what has been typed and what the screen shows -/
structure LawS (i : Nat) (echoes : List (List UInt8)) (ml : RL) (op : List UInt8) : Prop where
  scr : ∃ rows k, scrF echoes.flatten = (rows, op ++ List.replicate k 32, op.length) ∧ rows.map stripF = ml.map (·.2)
  ends : Ends100 op
  opLen : op.length ≤ 6 * i
  mlLen : ml.length ≤ i
  echoLen : echoes.flatten.length ≤ 100 * i
  count : echoes.length = i
theorem LawS.line {i : Nat} {echoes : List (List UInt8)} {ml : RL} {op line echo : List UInt8} {e : UInt8} (H : LawS i echoes ml op) (he : e = 10 ∨ e = 13 ∨ e = 4) (hl : ∀ c ∈ line, letter c) (hz : line.length ≤ 6) (h100 : ∃ q, line = q ++ [100])
    (hE : EchoOf line e echo) (hel : echo.length ≤ 13 + 9 * line.length) :
    (e = 4 → LawS (i + 1) (echoes ++ [echo]) ml (op ++ line)) ∧ (e ≠ 4 → ∀ r, LawS (i + 1) (echoes ++ [echo]) (ml ++ [(r, op ++ line)]) []) := by
  obtain ⟨⟨rows, k, hs, hm⟩, hen, ho, hml, hec, hcn⟩ := H
  have hends : Ends100 (op ++ line) := by
    obtain ⟨q, rfl⟩ := h100
    exact .inr ⟨op ++ q, by rw [List.append_assoc]⟩
  obtain ⟨k', hk'⟩ := scr_line (st := scrF echoes.flatten) (rows := rows) (op := op) he hl (by omega) hE ⟨k, by rw [hs]; simp⟩
  have hsc : scrF (echoes ++ [echo]).flatten = echo.foldl scrS (scrF echoes.flatten) := by
    unfold scrF
    rw [List.flatten_append, List.foldl_append]
    simp
  have hel' : (echoes ++ [echo]).flatten.length ≤ 100 * (i + 1) := by
    rw [List.flatten_append, List.length_append]
    simp only [List.flatten_cons, List.flatten_nil, List.append_nil]
    omega
  constructor
  · intro h4
    rw [if_pos h4] at hk'
    exact ⟨⟨rows, k', by rw [hsc, hk']; simp, hm⟩, hends, by simp; omega, by omega, hel', by simp [hcn]⟩
  · intro h4 r
    rw [if_neg h4] at hk'
    refine ⟨⟨rows ++ [op ++ line ++ List.replicate k' 32], 0, by rw [hsc, hk']; simp, ?_⟩, .inl rfl, by simp, by simp; omega, hel', by simp [hcn]⟩
    rw [List.map_append, List.map_append, hm]
    simp only [List.map_cons, List.map_nil]
    rw [strip_ends hends]
theorem LawS.shows {i : Nat} {echoes : List (List UInt8)} {ml : RL} {op : List UInt8} (H : LawS i echoes ml op) (r : Addr) : screenF echoes.flatten = (ml ++ [(r, op)]).map (·.2) := by
  obtain ⟨⟨rows, k, hs, hm⟩, hen, ho, hml, hec, hcn⟩ := H
  unfold screenF
  rw [hs, List.map_append, List.map_append, hm]
  simp only [List.map_cons, List.map_nil]
  rw [strip_ends hen]

/-- the ledger of law's loop -/
noncomputable def lwL (P : Params) (Δ : DevA) (bx si sn mt or c1 : Addr) (sv orv : List Value) (ml : RL) : List Item :=
  boxL bx si ++ (dev P Δ [] [] [] [] ++ ([(sn, lstP sv), (mt, lstP (refsL ml)), (or, lstP orv), (c1, cellP (some (.ref bx)))] ++ rowsL ml))
end
end Mine
end

noncomputable section
set_option maxHeartbeats 8000000

namespace Mine
open PySem PySem.Calls PyProof.Rows PySem.W

noncomputable def lwC (c1 : Addr) : List (Str × Addr) := [(Str.ofString "box", c1)]
noncomputable def lawFor : List Stmt := match nth body267 3 with | .For _ _ b _ _ => b | _ => []

section
variable {prog : Program} {w : World} {A : Around} {E : Value → Shared → Prop} {base h₀ h : Heap} {l₀ l : List Item} {L : Addr} {g : Array GenState} {d : Drawn} {tk : Nat} {os : OsState} {ls : List (Str × Value)} {m : Str → Option Value} {a : Addr} {cl : List (Str × Addr)} {i j : Nat} {x y : Addr} {env : Env} {bx si : Addr} {rest : List Item}

theorem law_turn {Δ : DevA} {it sn mt or c1 : Addr} {itI : Obj → Prop} {sv orv : List Value} {echoes : List (List UInt8)} {ml : RL} {op : List UInt8} {Q : Flow → Shared → Prop} (S : Stat w base) (R : Room A 6) (hi : i ≤ 10)
    (H : LawS i echoes ml op) (hsv : BytsAre sv echoes) (horv : BytesAre orv op) {hx : Heap} {tk : Nat} {lsx : List (Str × Value)} (V : LawV Δ.u Δ.c sn mt or lsx)
    (D : Led base h₀ l₀ L hx (Vars lsx) ((it, itI) :: lwL w.params Δ bx si sn mt or c1 sv orv ml))
    (k : ∀ (ao aw ar al mt or : Addr) (sv orv : List Value) (echoes : List (List UInt8)) (ml : RL) (op : List UInt8) (hx : Heap) (tk : Nat) (lsx : List (Str × Value)), LawS (i + 1) echoes ml op → BytsAre sv echoes → BytesAre orv op →
      Led base h₀ l₀ L hx (Vars lsx) ((it, itI) :: lwL w.params { Δ with ao := ao, aw := aw, ar := ar, al := al } bx si sn mt or c1 sv orv ml) → LawV Δ.u Δ.c sn mt or lsx → Q .next ⟨hx, g, d, tk, os⟩) :
    wpB (model prog w) A (execs lawFor (envK w.params 267 L (lwC c1))) Q NoE ⟨hx, g, d, tk, os⟩ := by
  have hsvl := hsv.length
  have hcn := H.count
  have horl : orv.length = op.length := by rw [horv.length, ofB_len]
  have hopl := H.opLen
  have hmll := H.mlLen
  have D : Led base h₀ l₀ L hx (Vars lsx) ((it, itI) :: (bx, boxP si) :: (si, scrP) :: (dev w.params Δ [] [] [] [] ++ ([(sn, lstP sv), (mt, lstP (refsL ml)), (or, lstP orv), (c1, cellP (some (.ref bx)))] ++ rowsL ml))) := D
  -- line = [[97, 98, 32, 99][_law_take(box, 4)] for k in range(1 + _law_take(box, 5))] + [100]
  refine b_execs_cons ?_
  refine b_Assign ?_ (by kernel_rfl) (by kernel_rfl)
  refine b_BinOp ?_
  refine b_CompRange (g := g) (d := d) (os := os) (cl := [(Str.ofString "box", c1)]) (m := Vars lsx) (L := L) (base := base) (h₀ := h₀) (l₀ := l₀) R.hand (by kernel_rfl) (by kernel_rfl) (by kernel_rfl) (by kernel_rfl) (by kernel_rfl) ?_
  refine b_callBlt S D boot_range' ?_
  refine b_args ?_
  refine b_BinOp ?_
  refine b_int ?_
  have D := D.pickN 3 [1, 2, 0]
  refine c_take (bx := bx) (si := si) (c := c1) 14 S (R.less (by omega)) (by decide) D rfl rfl (fun r h₁ tk₁ t₁ hr0 hr5 D => ?_) (by kernel_rfl) rfl (by kernel_rfl) (by kernel_rfl)
  obtain ⟨z, rfl⟩ := Int.eq_ofNat_of_zero_le hr0
  refine of_any (add_int ?_)
  have ez : (1 : Int) + (z : Int) = ((1 + z : Nat) : Int) := by omega
  rw [ez]
  refine b_args_nil ?_
  refine l_range (n := 1 + z) D fun r h₂ tk₂ D => ?_
  refine ⟨1 + z, r, h₂, tk₂, _, fun i l vs => l = (bx, boxP si) :: (si, scrP) :: (it, itI) :: (dev w.params Δ [] [] [] [] ++ ([(sn, lstP sv), (mt, lstP (refsL ml)), (or, lstP orv), (c1, cellP (some (.ref bx)))] ++ rowsL ml)) ∧
    ∃ bs : List UInt8, BytesAre vs bs ∧ bs.length = i ∧ ∀ c ∈ bs, letter c, rfl, rfl, by omega, D, ⟨rfl, [], .nil, rfl, by simp⟩, ?_, ?_⟩
  · rintro i C t hx tk l itc acc vs hi ⟨rfl, bs, hbs, hbl, hlet⟩ D
    have D := D.pickN 5 [3, 4, 0, 1, 2]
    refine b_Item ?_
    refine b_List ?_
    refine b_args ?_
    refine b_int ?_
    refine b_args ?_
    refine b_int ?_
    refine b_args ?_
    refine b_int ?_
    refine b_args ?_
    refine b_int ?_
    refine b_args_nil ?_
    refine l_newList D fun n₁ hq tkq D => ?_
    have D := D.pickN 3 [1, 2, 0]
    refine c_take (bx := bx) (si := si) (c := c1) 18 S (R.less (by omega)) (by decide) D rfl rfl (fun r h₃ tk₃ t₃ hr0 hr4 D => ?_) (by kernel_rfl) rfl (by kernel_rfl) (by kernel_rfl)
    have hb4 : BytesAre [Value.int 97 tk, Value.int 98 (tk + 1), Value.int 32 (tk + 1 + 1), Value.int 99 (tk + 1 + 1 + 1)] [97, 98, 32, 99] := .cons _ _ (.cons _ _ (.cons _ _ (.cons _ _ .nil)))
    obtain ⟨c, tc, hc, hx'⟩ := bytes_pick hb4 hr0 hr4
    refine l_itemL (i := 2) D rfl lst_any hr0 hx' (by simp) ?_
    have D := D.pickN 6 [3, 4, 5, 0, 1]
    refine ⟨_, _, _, rfl, ⟨rfl, bs ++ [c], ?_, by simp [hbl], ?_⟩, D⟩
    · show IntsAre _ _; rw [ofB_append]; exact hbs.append (bytes1 c tc)
    · intro x hx
      rcases List.mem_append.mp hx with hx | hx
      · exact hlet x hx
      · rw [List.mem_singleton.mp hx]
        simp only [List.mem_cons, List.not_mem_nil, or_false] at hc
        rcases hc with rfl | rfl | rfl | rfl <;> simp [letter]
  rintro h₃ tk₃ l lc lv hlvn ⟨rfl, bs, hbs, hbl, hlet⟩ D
  refine b_List ?_
  refine b_args ?_
  refine b_int ?_
  refine b_args_nil ?_
  refine l_newList D fun n₁ h₄ tk₄ D => ?_
  refine l_addL (i := 1) (j := 0) D rfl rfl (by simp; omega) fun li h₅ tk₅ D => ?_
  refine b_assign_Name ?_
  refine b_store D fun h₆ tk₆ D => ?_
  have D := D.pickN 6 [3, 4, 5, 0]
  have hline : BytesAre (lv ++ [Value.int 100 tk₃]) (bs ++ [100]) := by show IntsAre _ _; rw [ofB_append]; exact hbs.append (.cons _ _ .nil)
  have hll : ∀ c ∈ bs ++ [100], letter c := by
    intro c hc
    rcases List.mem_append.mp hc with hc | hc
    · exact hlet c hc
    · rw [List.mem_singleton.mp hc]; simp [letter]
  have hlz : (bs ++ [100]).length ≤ 6 := by simp [hbl]; omega
  have h100 : ∃ q, bs ++ [100] = q ++ [100] := ⟨bs, rfl⟩
  generalize hgl : bs ++ [100] = line at hline hll hlz h100
  generalize lv ++ [Value.int 100 tk₃] = lv₂ at D hline
  -- end = [10, 13, 4][_law_more(box, 3)]
  refine b_execs_cons ?_
  refine b_Assign ?_ (by kernel_rfl) (by kernel_rfl)
  refine b_Item ?_
  refine b_List ?_
  refine b_args ?_
  refine b_int ?_
  refine b_args ?_
  refine b_int ?_
  refine b_args ?_
  refine b_int ?_
  refine b_args_nil ?_
  refine l_newList D fun n₂ h₇ tk₇ D => ?_
  have D := D.pickN 5 [1, 2, 0, 3, 4]
  refine c_more (bx := bx) (si := si) (c := c1) 16 S (R.less (by omega)) (by decide) D rfl rfl (fun r h₈ tk₈ t₈ hr0 hr3 D => ?_) (by kernel_rfl) rfl (by kernel_rfl) (by kernel_rfl)
  have hb3 : BytesAre [Value.int 10 tk₆, Value.int 13 (tk₆ + 1), Value.int 4 (tk₆ + 1 + 1)] [10, 13, 4] := .cons _ _ (.cons _ _ (.cons _ _ .nil))
  obtain ⟨e, te, hemem, hx'⟩ := bytes_pick hb3 hr0 hr3
  have he : e = 10 ∨ e = 13 ∨ e = 4 := by simpa using hemem
  refine l_itemL (i := 2) D rfl lst_any hr0 hx' (by simp) ?_
  refine b_assign_Name ?_
  refine b_store D fun h₉ tk₉ D => ?_
  -- if not _law_line_right(...): return False
  have D := D.pickN 17 [0, 1, 4, 5, 6, 7, 8, 9, 10, 11, 12, 13, 3, 14, 15, 16]
  have D := D.say (i := 2) (P := lstP lv₂) (P' := ilP (ofB line)) rfl fun o _ h => ⟨lv₂, hline, h⟩
  have D : Led base h₀ l₀ L h₉ _ (lrL w.params Δ bx si li line [] [] [] [] [(sn, lstP sv)] ++ ((it, itI) :: (mt, lstP (refsL ml)) :: (or, lstP orv) :: (c1, cellP (some (.ref bx))) :: rowsL ml)) := D
  refine b_execs_cons ?_
  refine b_If ?_
  refine b_isTrue_Not ?_
  refine b_isTrue_Call ?_
  refine b_callDef S D (glob_right _) (keep_262 _) ?_
  refine b_args ?_
  refine g_cell D (i := 15) (c := c1) rfl rfl ?_ (by kernel_rfl) (by kernel_rfl)
  refine b_args ?_
  refine b_local D V.uart ?_
  refine b_args ?_
  refine b_local D V.console ?_
  refine b_args ?_
  refine b_local D rfl ?_
  refine b_args ?_
  refine b_local D rfl ?_
  refine b_args ?_
  refine b_local D V.sent ?_
  refine b_args_nil ?_
  refine ⟨S.here D.stay, right_spec S (R.less (by omega)) hll (by omega) he (by omega) D.own.left fun ao aw ar al echo tec h₁₀ tk₁₀ hE hel O' S' => ?_⟩
  have D := D.call O' S'
  refine b_truthy_bool ?_
  rw [if_neg (by decide)]
  refine b_execs_nil ?_
  obtain ⟨H4, Hn⟩ := H.line he hll hlz h100 hE hel
  -- open_row = open_row + line
  obtain ⟨lv₃, hlv₃, D⟩ := D.ints (i := 2) (x := li) (ns := ofB line) rfl
  have hlv₃l : lv₃.length = line.length := by rw [hlv₃.length, ofB_len]
  refine b_execs_cons ?_
  refine b_Assign ?_ (by kernel_rfl) (by kernel_rfl)
  refine b_BinOp ?_
  refine b_local D V.open_ ?_
  refine b_local D rfl ?_
  refine l_addL (i := 14) (j := 2) D rfl rfl (by omega) fun or₂ h₁₁ tk₁₁ D => ?_
  refine b_assign_Name ?_
  refine b_store D fun h₁₂ tk₁₂ D => ?_
  have D := D.pickN 17 [13, 1, 2, 4, 5, 6, 7, 8, 9, 10, 11, 12, 14, 0, 16]
  have hsv' : BytsAre (sv ++ [.bytes echo.toArray tec]) (echoes ++ [echo]) := hsv.append (.cons _ _ .nil)
  have hor' : BytesAre (orv ++ lv₃) (op ++ line) := by show IntsAre _ _; rw [ofB_append]; exact horv.append hlv₃
  -- if end != 4
  refine b_execs_cons ?_
  refine b_If ?_
  refine b_isTrue_Compare ?_
  refine b_local D rfl ?_
  refine b_int ?_
  refine of_any (ne_int ?_)
  refine b_truthy_bool ?_
  rw [u8_ne4]
  by_cases h4 : e = 4
  · rw [if_neg (by simpa using h4)]
    refine b_execs_nil (b_execs_nil ?_)
    exact k ao aw ar al mt or₂ _ _ _ _ _ _ _ _ (H4 h4) hsv' hor' D ⟨V.uart, V.console, V.sent, V.meant, rfl⟩
  · rw [if_pos (by simpa using h4)]
    refine b_execs_cons ?_
    refine b_AssignSwap [Str.ofString "meant", Str.ofString "open_row"] ?_ (by kernel_rfl) (by kernel_rfl)
    refine b_Tuple ?_
    refine b_args ?_
    refine b_BinOp ?_
    refine b_local D V.meant ?_
    refine b_List ?_
    refine b_args ?_
    refine b_local D rfl ?_
    refine b_args_nil ?_
    refine l_newList D fun n₃ h₁₃ tk₁₃ D => ?_
    refine l_addL (i := 13) (j := 0) D rfl rfl (by unfold refsL; simp; omega) fun mt₂ h₁₄ tk₁₄ D => ?_
    have er : refsL ml ++ [Value.ref or₂] = refsL (ml ++ [(or₂, op ++ line)]) := by unfold refsL; rw [List.map_append]; rfl
    rw [er] at D
    refine b_args ?_
    refine b_List ?_
    refine b_args_nil ?_
    refine l_newList D fun or₃ h₁₅ tk₁₅ D => ?_
    refine b_args_nil ?_
    refine l_newTuple D fun n₄ h₁₆ tk₁₆ D => ?_
    refine l_unpackItems R.hand D (i := 0) rfl rfl fun h₁₇ tk₁₇ D => ?_
    refine b_order_cons (b_bindName (b_store D fun h₁₈ tk₁₈ D => ?_))
    refine b_order_cons (b_bindName (b_store D fun h₁₉ tk₁₉ D => ?_))
    refine b_order_nil (b_execs_nil (b_execs_nil ?_))
    have D := D.pickN 19 [4, 5, 6, 7, 8, 9, 10, 11, 12, 13, 14, 15, 2, 1, 18, 17]
    have D := D.say (i := 15) (x := or₂) (P := lstP (orv ++ lv₃)) (P' := ilP (ofB (op ++ line))) rfl fun o _ h => ⟨_, hor', h⟩
    have D : Led base h₀ l₀ L h₁₉ _ ([(it, itI), (bx, boxP si), (si, scrP)] ++ (dev w.params { Δ with ao := ao, aw := aw, ar := ar, al := al } [] [] [] [] ++ ([(sn, lstP (sv ++ [.bytes echo.toArray tec])), (mt₂, lstP (refsL (ml ++ [(or₂, op ++ line)]))), (or₃, lstP []), (c1, cellP (some (.ref bx)))] ++ ((or₂, ilP (ofB (op ++ line))) :: rowsL ml)))) := D
    have D := D.perm (l' := [(it, itI), (bx, boxP si), (si, scrP)] ++ (dev w.params { Δ with ao := ao, aw := aw, ar := ar, al := al } [] [] [] [] ++ ([(sn, lstP (sv ++ [.bytes echo.toArray tec])), (mt₂, lstP (refsL (ml ++ [(or₂, op ++ line)]))), (or₃, lstP []), (c1, cellP (some (.ref bx)))] ++ rowsL (ml ++ [(or₂, op ++ line)])))) (by
      have e5 : rowsL (ml ++ [(or₂, op ++ line)]) = rowsL ml ++ [(or₂, ilP (ofB (op ++ line)))] := by unfold rowsL; rw [List.map_append]; rfl
      rw [e5]
      exact List.Perm.append_left [(it, itI), (bx, boxP si), (si, scrP)] (List.Perm.append_left (dev w.params { Δ with ao := ao, aw := aw, ar := ar, al := al } [] [] [] []) (List.Perm.append_left [(sn, lstP (sv ++ [.bytes echo.toArray tec])), (mt₂, lstP (refsL (ml ++ [(or₂, op ++ line)]))), (or₃, lstP []), (c1, cellP (some (.ref bx)))] (List.perm_append_singleton _ _).symm)))
    exact k ao aw ar al mt₂ or₃ _ [] _ _ [] _ _ _ (Hn h4 or₂) hsv' .nil D ⟨V.uart, V.console, V.sent, rfl, rfl⟩
end
end Mine
end

noncomputable section
set_option maxHeartbeats 8000000

namespace Mine
open PySem PySem.Calls PyProof.Rows PySem.W

section
variable {prog : Program} {w : World} {A : Around} {E : Value → Shared → Prop} {base h₀ h : Heap} {l₀ l : List Item} {L : Addr} {g : Array GenState} {d : Drawn} {tk : Nat} {os : OsState} {ls : List (Str × Value)} {m : Str → Option Value} {a : Addr} {cl : List (Str × Addr)} {i j : Nat} {x y : Addr} {env : Env} {bx si : Addr} {rest : List Item}

theorem law_end {Δ : DevA} {sn mt or c1 : Addr} {sv orv : List Value} {echoes : List (List UInt8)} {ml : RL} {op : List UInt8} {Q : Flow → Shared → Prop} (S : Stat w base) (R : Room A 6) (hi : i ≤ 3) (h1 : 1 ≤ i)
    (H : LawS i echoes ml op) (hsv : BytsAre sv echoes) (horv : BytesAre orv op) {hx : Heap} {tk : Nat} {lsx : List (Str × Value)} (V : LawV Δ.u Δ.c sn mt or lsx)
    (D : Led base h₀ l₀ L hx (Vars lsx) (lwL w.params Δ bx si sn mt or c1 sv orv ml))
    (k : ∀ (hx : Heap) (tk : Nat) (l : List Item), Led base h₀ l₀ L hx (Vars lsx) l → Q (.ret (.bool true)) ⟨hx, g, d, tk, os⟩) :
    wpB (model prog w) A (execs (body267.drop 4) (envK w.params 267 L (lwC c1))) Q NoE ⟨hx, g, d, tk, os⟩ := by
  have hsvl := hsv.length
  have hcn := H.count
  have hmll := H.mlLen
  have hecl := H.echoLen
  refine b_execs_cons (b_Return_some ?_)
  refine b_Compare ?_
  refine b_callDef S D (glob_screen _) (keep_250 _) ?_
  refine b_args ?_
  refine b_CallO ?_
  refine b_bytes ?_
  refine meth_bjoin ?_
  dsimp only
  refine b_cwB ?_
  refine b_args ?_
  refine b_local D V.sent ?_
  refine b_args_nil ?_
  refine l_join (i := 10) D rfl hsv (by omega) (by omega) fun t' tk' => ?_
  refine b_args_nil ?_
  have D : Led base h₀ l₀ L hx _ ([] ++ lwL w.params Δ bx si sn mt or c1 sv orv ml) := D
  refine ⟨S.here D.stay, screen_spec S (R.less (by omega)) (by omega) D.own.left fun n ml' h₁ tk₁ hml' O' S' => ?_⟩
  have D := D.call O' S'
  have hml'l : ml'.length = ml.length + 1 := by
    have := congrArg List.length (hml'.trans (H.shows n))
    simpa using this
  -- meant + [open_row]
  have D := D.perm (l' := lwL w.params Δ bx si sn mt or c1 sv orv ml ++ ((n, lstP (refsL ml')) :: rowsL ml')) List.perm_append_comm
  refine b_BinOp ?_
  refine b_local D V.meant ?_
  refine b_List ?_
  refine b_args ?_
  refine b_local D V.open_ ?_
  refine b_args_nil ?_
  refine l_newList D fun n₁ h₂ tk₂ D => ?_
  refine l_addL (i := 12) (j := 0) D rfl rfl (by unfold refsL; simp; omega) fun n₂ h₃ tk₃ D => ?_
  have er : refsL ml ++ [Value.ref or] = refsL (ml ++ [(or, op)]) := by unfold refsL; rw [List.map_append]; rfl
  rw [er] at D
  have D := D.say (i := 14) (x := or) (P := lstP orv) (P' := ilP (ofB op)) rfl fun o _ h => ⟨_, horv, h⟩
  have D : Led base h₀ l₀ L h₃ (Vars lsx) ([(n₂, lstP (refsL (ml ++ [(or, op)]))), (n₁, lstP [.ref or]), (bx, boxP si), (si, scrP)] ++ (dev w.params Δ [] [] [] [] ++ ([(sn, lstP sv), (mt, lstP (refsL ml)), (or, ilP (ofB op)), (c1, cellP (some (.ref bx)))] ++ (rowsL ml ++ ((n, lstP (refsL ml')) :: rowsL ml'))))) := D
  obtain ⟨i', hi'⟩ : ∃ i', ([(n₂, lstP (refsL (ml ++ [(or, op)]))), (n₁, lstP [.ref or]), (bx, boxP si), (si, scrP)] ++ (dev w.params Δ [] [] [] [] ++ ([(sn, lstP sv), (mt, lstP (refsL ml)), (or, ilP (ofB op)), (c1, cellP (some (.ref bx)))] ++ (rowsL ml ++ ((n, lstP (refsL ml')) :: rowsL ml')))) : List Item)[i']? = some (n, lstP (refsL ml')) :=
    List.mem_iff_getElem?.mp (by simp)
  have hnd := D.own.nd
  refine l_eqRows (i := i') (j := 0) (ml := ml') (ml' := ml ++ [(or, op)]) D hi' rfl (fun p hp => ?_) (fun p hp => ?_) (fun p hp q hq e => ?_) (by rw [hml']; exact H.shows or) R.cline ?_
  · have : (p.1, ilP (ofB p.2)) ∈ rowsL ml' := List.mem_map_of_mem (f := fun p : Addr × List UInt8 => ((p.1, ilP (ofB p.2)) : Item)) hp
    simp only [List.mem_append, List.mem_cons]
    exact .inr (.inr (.inr (.inr (.inr this))))
  · rcases List.mem_append.mp hp with hp | hp
    · have : (p.1, ilP (ofB p.2)) ∈ rowsL ml := List.mem_map_of_mem (f := fun p : Addr × List UInt8 => ((p.1, ilP (ofB p.2)) : Item)) hp
      simp only [List.mem_append, List.mem_cons]
      exact .inr (.inr (.inr (.inl this)))
    · rw [List.mem_singleton.mp hp]; simp
  · have e1 : p.1 ∈ ((n, lstP (refsL ml')) :: rowsL ml').map (·.1) := by
      refine List.mem_map.mpr ⟨(p.1, ilP (ofB p.2)), List.mem_cons_of_mem _ (List.mem_map_of_mem (f := fun p : Addr × List UInt8 => ((p.1, ilP (ofB p.2)) : Item)) hp), rfl⟩
    have e2 : q.1 ∈ (([(n₂, lstP (refsL (ml ++ [(or, op)]))), (n₁, lstP [.ref or]), (bx, boxP si), (si, scrP)] ++ (dev w.params Δ [] [] [] [] ++ ([(sn, lstP sv), (mt, lstP (refsL ml)), (or, ilP (ofB op)), (c1, cellP (some (.ref bx)))] ++ rowsL ml)) : List Item)).map (·.1) := by
      rcases List.mem_append.mp hq with hq | hq
      · refine List.mem_map.mpr ⟨(q.1, ilP (ofB q.2)), ?_, rfl⟩
        have : (q.1, ilP (ofB q.2)) ∈ rowsL ml := List.mem_map_of_mem (f := fun p : Addr × List UInt8 => ((p.1, ilP (ofB p.2)) : Item)) hq
        simp only [List.mem_append]
        exact .inr (.inr (.inr this))
      · rw [List.mem_singleton.mp hq]; simp
    have hnd' : ((([(n₂, lstP (refsL (ml ++ [(or, op)]))), (n₁, lstP [.ref or]), (bx, boxP si), (si, scrP)] ++ (dev w.params Δ [] [] [] [] ++ ([(sn, lstP sv), (mt, lstP (refsL ml)), (or, ilP (ofB op)), (c1, cellP (some (.ref bx)))] ++ rowsL ml)) : List Item)).map (·.1) ++ ((n, lstP (refsL ml')) :: rowsL ml').map (·.1)).Nodup := by
      rw [← List.map_append]
      simp only [List.append_assoc]
      exact hnd
    exact (List.nodup_append.mp hnd').2.2 q.1 e2 p.1 e1 e.symm
  · exact k _ _ _ D
end
end Mine
end

noncomputable section
set_option maxHeartbeats 8000000

namespace Mine
open PySem PySem.Calls PyProof.Rows PySem.W

section
variable {prog : Program} {w : World} {A : Around} {E : Value → Shared → Prop} {base h₀ h : Heap} {l₀ l : List Item} {L : Addr} {g : Array GenState} {d : Drawn} {tk : Nat} {os : OsState} {ls : List (Str × Value)} {m : Str → Option Value} {a : Addr} {cl : List (Str × Addr)} {i j : Nat} {x y : Addr} {env : Env} {bx si : Addr} {rest : List Item}

theorem law_spec {sc : Addr} {vs : List Value} {ns : List Int} {Q : Value → Shared → Prop} (S : Stat w base) (R : Room A 7) (hsc : base.IsList sc vs.toArray) (hv : IntsAre vs ns) (hn : ns.length ≤ 63)
    (O : Own base h [])
    (k : ∀ h' tk' l, Own base h' l → Q (.bool true) ⟨h', g, d, tk', os⟩) :
    wpB (model prog w) A (call (.ref 267) [.ref sc]) Q NoE ⟨h, g, d, tk, os⟩ := by
  have R' : ∀ env, Room (A.deeper env) 6 := fun env => R.deeper
  have hvl := hv.length
  refine b_callC (a := 267) S O (by kernel_rfl) R.lim (binds := [(Str.ofString "script", .ref sc)])
    (by kernel_rfl) (by kernel_rfl) [Str.ofString "box"] (fun n => by rw [cells267]; rfl) (by decide) fun h₁ tk₁ D => ?_
  rw [body_267]
  rw [cells267] at D ⊢
  rw [pick267] at D
  simp only [List.map_cons, List.map_nil, bind267] at D
  generalize hc1 : h.objs.size + 1 = c1 at D ⊢
  generalize hLL : h.objs.size = L at D ⊢
  have D : Led base h [] L h₁ (Vars [(Str.ofString "script", .ref sc)]) [(c1, cellP none)] := D
  -- box = [script[:60], 0]
  refine b_execs_cons ?_
  refine b_Assign ?_ (by kernel_rfl) (by kernel_rfl)
  refine b_List ?_
  refine b_args ?_
  refine b_SliceOf ?_
  refine b_local D rfl ?_
  refine b_part_none ?_
  refine b_part_some ?_
  refine b_int ?_
  refine l_sliceAt (hi' := some ((60 : Nat) : Int)) D hsc .none (.int _ _) (by omega) fun si h₂ tk₂ D => ?_
  rw [slicePick_upto'] at D
  refine b_args ?_
  refine b_int ?_
  refine b_args_nil ?_
  refine l_newList D fun bx h₃ tk₃ D => ?_
  refine b_assign_Name ?_
  refine g_setCell (i := 2) (c := c1) D rfl rfl (fun h₄ tk₄ D => ?_) (by kernel_rfl) (by kernel_rfl)
  have D := D.say (i := 0) (x := bx) (P' := boxP si) rfl fun o _ h => ⟨(0, tk₂), lst_any o h⟩
  have D := D.say (i := 1) (x := si) (P' := scrP) rfl fun o _ h => ⟨ns.take 60, Nat.le_trans (List.length_take_le _ _) (by omega), _, by simpa using hv.take 60, h⟩
  have D : Led base h [] L h₄ (Vars [(Str.ofString "script", .ref sc)]) [(bx, boxP si), (si, scrP), (c1, cellP (some (.ref bx)))] := D
  -- uart, sent, meant, open_row = (Uart(4), [], [], [])
  refine b_execs_cons ?_
  refine b_AssignTuple ?_ (by kernel_rfl) (by kernel_rfl)
  refine b_Tuple ?_
  refine b_args ?_
  refine b_callDef (cl := lwC c1) S D (glob_Uart _) (keep_156 _) ?_
  refine b_args ?_
  refine b_int ?_
  refine b_args_nil ?_
  refine ⟨S.here D.stay, call_Uart S ((R' _).less (by omega)) D fun u du ao aw T h₅ tk₅ D => ?_⟩
  refine b_args ?_
  refine b_List ?_
  refine b_args_nil ?_
  refine l_newList D fun sn h₆ tk₆ D => ?_
  refine b_args ?_
  refine b_List ?_
  refine b_args_nil ?_
  refine l_newList D fun mt h₇ tk₇ D => ?_
  refine b_args ?_
  refine b_List ?_
  refine b_args_nil ?_
  refine l_newList D fun or h₈ tk₈ D => ?_
  refine b_args_nil ?_
  refine l_newTuple D fun tp h₉ tk₉ D => ?_
  refine l_unpack (R' _).hand D (i := 0) rfl rfl rfl fun h₁₀ tk₁₀ D => ?_
  refine b_order_cons (b_assign_Name (b_store D fun h₁₁ tk₁₁ D => ?_))
  refine b_order_cons (b_assign_Name (b_store D fun h₁₂ tk₁₂ D => ?_))
  refine b_order_cons (b_assign_Name (b_store D fun h₁₃ tk₁₃ D => ?_))
  refine b_order_cons (b_assign_Name (b_store D fun h₁₄ tk₁₄ D => ?_))
  refine b_order_nil ?_
  -- console = LineInput(uart, 40)
  refine b_execs_cons ?_
  refine b_Assign ?_ (by kernel_rfl) (by kernel_rfl)
  refine b_callDef (cl := lwC c1) S D (glob_LineInput _) (keep_218 _) ?_
  refine b_args ?_
  refine b_local D rfl ?_
  refine b_args ?_
  refine b_int ?_
  refine b_args_nil ?_
  refine ⟨S.here D.stay, call_Console S ((R' _).less (by omega)) D fun co dc ar al h₁₅ tk₁₅ D => ?_⟩
  refine b_assign_Name ?_
  refine b_store D fun h₁₆ tk₁₆ D => ?_
  have D := D.pick [12, 13, 8, 9, 10, 11, 0, 1, 2, 3, 7, 6, 5, 14]
  obtain ⟨Δ, hu, hc, D⟩ : ∃ Δ : DevA, Δ.u = u ∧ Δ.c = co ∧ Led base h [] L h₁₆ (Vars ((Str.ofString "console", .ref co) :: (Str.ofString "open_row", .ref or) :: (Str.ofString "meant", .ref mt) :: (Str.ofString "sent", .ref sn) :: (Str.ofString "uart", .ref u) :: [(Str.ofString "script", .ref sc)])) (lwL w.params Δ bx si sn mt or c1 [] [] []) :=
    ⟨⟨u, du, ao, aw, co, dc, ar, al, fun i => bif i == 4 then tk₁₄ else T i⟩, rfl, rfl, D⟩
  have V : LawV Δ.u Δ.c sn mt or ((Str.ofString "console", .ref co) :: (Str.ofString "open_row", .ref or) :: (Str.ofString "meant", .ref mt) :: (Str.ofString "sent", .ref sn) :: (Str.ofString "uart", .ref u) :: [(Str.ofString "script", .ref sc)]) := by
    rw [hu, hc]; exact ⟨rfl, rfl, rfl, rfl, rfl⟩
  generalize ((Str.ofString "console", Value.ref co) :: (Str.ofString "open_row", .ref or) :: (Str.ofString "meant", .ref mt) :: (Str.ofString "sent", .ref sn) :: (Str.ofString "uart", .ref u) :: [(Str.ofString "script", .ref sc)]) = lsx at V D
  -- for lap in range(1 + _law_more(box, 3))
  refine b_execs_cons ?_
  refine b_For ?_
  refine b_callBlt (cl := lwC c1) S D boot_range' ?_
  refine b_args ?_
  refine b_BinOp ?_
  refine b_int ?_
  refine c_more (bx := bx) (si := si) (c := c1) 13 S ((R' _).less (by omega)) (by decide) D rfl rfl (fun r h₁₇ tk₁₇ t₁₇ hr0 hr3 D => ?_) (by kernel_rfl) rfl (by kernel_rfl) (by kernel_rfl)
  obtain ⟨z, rfl⟩ := Int.eq_ofNat_of_zero_le hr0
  refine of_any (add_int ?_)
  have ez : (1 : Int) + (z : Int) = ((1 + z : Nat) : Int) := by omega
  rw [ez]
  refine b_args_nil ?_
  refine l_range (n := 1 + z) D fun r h₁₈ tk₁₈ D => ?_
  refine l_iterRange (i := 0) D rfl (by omega) fun it h₁₉ tk₁₉ D => ?_
  have D := D.pick [0, 2, 3, 4, 5, 6, 7, 8, 9, 10, 11, 12, 13, 14, 15]
  refine b_ForW (cl := lwC c1) (nexts_range (R' _).hand it (1 + z)) (fun i ls l => ∃ (ao aw ar al mt or : Addr) (sv orv : List Value) (echoes : List (List UInt8)) (ml : RL) (op : List UInt8),
      l = lwL w.params { Δ with ao := ao, aw := aw, ar := ar, al := al } bx si sn mt or c1 sv orv ml ∧ LawS i echoes ml op ∧ BytsAre sv echoes ∧ BytesAre orv op ∧ LawV Δ.u Δ.c sn mt or ls) D
    ⟨Δ.ao, Δ.aw, Δ.ar, Δ.al, mt, or, [], [], [], [], [], rfl, ⟨⟨[], 0, rfl, rfl⟩, .inl rfl, by simp, by simp, by simp, rfl⟩, .nil, .nil, V⟩ (fun _ _ _ _ => trivial) ?_ ?_
  · rintro i v hx tk ls l hi ⟨tv, rfl⟩ ⟨ao, aw, ar, al, mt, or, sv, orv, echoes, ml, op, rfl, H, hsv, horv, V⟩ D
    refine law_turn (Δ := { Δ with ao := ao, aw := aw, ar := ar, al := al }) (lsx := (Str.ofString "lap", .int (i : Int) tv) :: ls) S (R' _) (by omega) H hsv horv ⟨V.uart, V.console, V.sent, V.meant, V.open_⟩ D fun ao aw ar al mt or sv orv echoes ml op hx tk lsx H hsv horv D V => ?_
    exact ⟨hx, tk, lsx, _, rfl, ⟨ao, aw, ar, al, mt, or, sv, orv, echoes, ml, op, rfl, H, hsv, horv, V⟩, D⟩
  · rintro hx tk ls l ⟨ao, aw, ar, al, mt, or, sv, orv, echoes, ml, op, rfl, H, hsv, horv, V⟩ D
    refine law_end (Δ := { Δ with ao := ao, aw := aw, ar := ar, al := al }) S (R' _) (by omega) (by omega) H hsv horv V D fun hx tk l D => ?_
    exact k _ _ _ D.own
end
end Mine
end

section
set_option maxHeartbeats 8000000
namespace Mine
open PySem PySem.Spec PySem.Calls PyProof.Rows PySem.W
/-- what the claim asks of the law's answer -/
abbrev Fits (s₀ s₁ : Shared) (args : List WData) : Except Value Flow → Shared → Prop :=
  GoodWG PySem.Challenge.rw_nz0216_01.row.claim (classAt s₀.heap) (ExcName.means s₀.heap) args s₁
theorem promised_is : PySem.Challenge.rw_nz0216_01.row.toRowW.promised := by w_witness2
theorem call_fits (w : World) (s₀ s₁ : Shared) (mg mb : Str → Option Value) (G : Ground (Hd.vX Hd.XN) (Hd.lsX Hd.XN) [] (XL (Hd.vX Hd.XN) []) w s₀ mg mb s₁.heap) (Y : Hd.myHook.says w s₁.heap)
    (args : List WData) (vals : List Value) (as : List Addr) (hpre : PySem.Challenge.rw_nz0216_01.row.claim.pre args = true) (hlay : WData.layableAll args = true)
    (hg : s₁.gens = #[]) (hrd : ReadsAllW PySem.Challenge.rw_nz0216_01.row.records (classAt s₀.heap) s₁.heap vals args as) (hwl : WellAll w.params s₁.heap vals args) (hlo : ∀ a ∈ as, (a == sysModules) = false) :
    wpAny (model PySem.Challenge.pw_nz0216_01 w) callerA (guarded (.bool true) (PySem.call (.ref 267) vals)) (fun v s' => Fits s₀ s₁ args (.ok (.ret v)) s') (fun e s' => Fits s₀ s₁ args (.error e) s') s₁ := by
  have KX := kIn_of (K := Mine.myK) (as := Mine.myAs) (e := fun _ => by kernel_rfl) Y
  refine Ground.open G ?_
  intro T B D TE TW
  wrow_args hpre hlay hrd hwl hlo
  rename_i ns hs hlay0 hL1 hr1 hl2 x3 x4 sc vs x5 hL ra w1 r0 hI hr2 hcond1 hcond2
  have S : Mine.Stat w s₁.heap := ⟨KX, ⟨mg, T.g⟩, ⟨mb, T.b, T.builtins⟩, T.nolimit⟩
  have O : Mine.Own s₁.heap s₁.heap [] := ⟨fun _ _ e => e, Nat.le_refl _, fun _ hp => (nomatch hp), fun _ hp => (nomatch hp), List.nodup_nil⟩
  have R : Mine.Room callerA 7 := ⟨by decide, rfl, by decide⟩
  obtain ⟨h₁, g₁, d₁, tk₁, os₁⟩ := s₁
  have good : ∀ h' tk' l, Mine.Own h₁ h' l → Fits s₀ ⟨h₁, g₁, d₁, tk₁, os₁⟩ [ofPy (PyData.list (List.map PyData.int ns))] (.ok (.ret (.bool true))) ⟨h', g₁, d₁, tk', os₁⟩ := fun h' tk' l O' =>
    GoodW.toG ⟨.inl ⟨.bool true, .bool true, [], rfl, raisesW_false (by wrow_none_raised), .bool true, postW_of (by wrow_shape) (by wtm_val) (by w_fin), unshared_nil⟩, O'.stay, rfl, hg⟩
  refine any_of_guarded (Mine.b_mono (Mine.law_spec (Q := fun v s' => Fits s₀ ⟨h₁, g₁, d₁, tk₁, os₁⟩ [ofPy (PyData.list (List.map PyData.int ns))] (.ok (.ret v)) s') S R hL hI (by omega) O fun h' tk' l O' => good h' tk' l O') (fun _ _ z => z) fun _ _ z => z.elim) (good _ _ _ O)
theorem fin : PySem.Challenge.rw_nz0216_01.Holds := by
  w_on
  o_law
  refine ⟨by assumption, promised_is, unguarded (a := fun _ => .done (.ret (.bool true))) (open_anyG (r := PySem.Challenge.rw_nz0216_01.row.toRowW) (run := fun f vs => guarded (.bool true) (PySem.call f vs))
    (tree := fun vs => guarded (.done (.ret (.bool true))) (callStub (Str.ofString "law") vs).cur) (q := Hd.vX Hd.XN) (loose := Hd.lsX Hd.XN) (Xt := Hd.myXt) (XP := XL (Hd.vX Hd.XN) []) (Yf := Hd.myHook.obs) (Ya := Hd.myHook.val) (YP := Hd.myHook.says) (N := 4020)
    Hd.left_is Hd.myHook.of Hd.myHook.keeps (fun s e => xl_of s (Bool.and_eq_true_iff.mp e).1) XL.keeps (fun s e => recFacts_of (Bool.and_eq_true_iff.mp e).2) (by rfl) (by decide +kernel) ⟨rfl, rfl, rfl, rfl, rfl, by decide +kernel⟩ promised_is
    (fun vs w s mg f Q E hns hf h => guarded_turn h (fun hB => b_bind (of_any (wpAny_nsGet hns (by rw [show mg (Str.ofString "law") = some f from hf]; exact b_bind (b_mono hB (fun _ _ x => b_pure x) fun _ _ x => x))))) fun x => x)
    (fun w s hg G n hn => ?_) fun w s₀ s₁ mg mb G Y args vs as hpre hlay L low => ?_)⟩
  · obtain rfl : n = Str.ofString "law" := List.mem_singleton.mp hn
    exact pinned_of_view hg G Hd.def_is Hd.theDef_is Hd.kw_is
  · exact ⟨.ref 267, mg_of (kIn_of (K := Mine.myK) (as := Mine.myAs) (e := fun _ => by kernel_rfl) Y) G.T.g (by kernel_rfl), call_fits w s₀ s₁ mg mb G Y args vs as hpre hlay L.gens L.reads L.well (L.low low)⟩
end Mine
end

theorem PySem.Challenge.cw_nz0216_01_holds : PySem.Challenge.rw_nz0216_01.Holds := by
  exact Mine.fin
