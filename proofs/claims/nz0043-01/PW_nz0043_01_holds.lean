import PyProof.Rows.All
import Wide.All
import OpenK.AllK
import Wide.FinOn
import PyProof.StrReplace2
import Lean
import PySem.Challenge.RW_nz0043_01
set_option Elab.async false
set_option maxRecDepth 100000
set_option maxHeartbeats 8000000
set_option compiler.extract_closed false
set_option linter.unusedVariables false
set_option linter.unusedSimpArgs false
section
open PySem PySem.W PyProof.Rows PySem.Spec PySem.Calls
local macro_rules | `(tactic| o_head $_) => `(tactic| exact (by assumption : ∀ T : Prop, T) _)
namespace Mine
theorem hd (any : ∀ T : Prop, T) : PySem.Challenge.rw_nz0043_01.row.Holds := by k_head
end Mine
end
noncomputable section
open PySem PySem.W PyProof.Rows
set_option Elab.async false
set_option maxRecDepth 100000
namespace Mine

abbrev Led := List (Addr × Obj)

/-- the def at f, called with vs where the ledger is news: it needs k frames, comes back with r and a ledger news' such that Post -/
def Fn (K : Params → Frag) (w : World) (f : Addr) (k : Nat) (vs : List Value) (news : Led) (Post : Value → Led → Nat → Prop) : Prop :=
  ∀ (p : Program) (loose : List Str) (mean : ExcName → Option Value) (mg mb : Str → Option Value)
    (dp un : Nat) (gd : Option (List Code)) (cn : Str) (cs : Scope) (a : Addr) (ccd : Value) (cl : List (Str × Addr)) (outer : List Env) (A₀ : Around) (base h₀ : Heap) (L : Addr) (m : Str → Option Value) (s : Shared)
    (Q E : Value → Shared → Prop),
    Below A₀ base outer h₀ → Fr h₀ L s.heap m → (K w.params).In h₀ → News h₀ L s.heap news → Top p loose mean mg mb h₀ → cs.kind = .function → dp + k < recursionLimit → un + 8 * k < cLine →
    (∀ r news' h' tk', Fr h₀ L h' m → News h₀ L h' news' → Post r news' tk' → Q r { s with heap := h', toks := tk' }) →
    wpAny (model PySem.Challenge.rw_nz0043_01.row.toRowW.prog w) (ktrTop dp un gd cn cs L a ccd cl outer) (call (.ref f) vs) Q E s

section
variable {K : Params → Frag} {w : World} {f : Addr} {k : Nat} {vs : List Value} {news : Led} {Post : Value → Led → Nat → Prop}
theorem Fn.use (S : Fn K w f k vs news Post) {p : Program} {loose : List Str} {mean : ExcName → Option Value} {mg mb : Str → Option Value}
    {dp un : Nat} {gd : Option (List Code)} {cn : Str} {cs : Scope} {a : Addr} {ccd : Value} {cl : List (Str × Addr)} {outer : List Env} {A₀ : Around} {base h₀ : Heap} {L : Addr} {m : Str → Option Value} {s : Shared}
    {Q E : Value → Shared → Prop} (B : Below A₀ base outer h₀) (F : Fr h₀ L s.heap m) (X : (K w.params).In h₀) (N : News h₀ L s.heap news) (T : Top p loose mean mg mb h₀) (hk : cs.kind = .function) (hd : dp + k < recursionLimit) (hu : un + 8 * k < cLine)
    (ret : ∀ r news' h' tk', s.toks ≤ tk' → Fr h₀ L h' m → News h₀ L h' news' → Post r news' tk' → Q r { s with heap := h', toks := tk' }) :
    wpAny (model PySem.Challenge.rw_nz0043_01.row.toRowW.prog w) (ktrTop dp un gd cn cs L a ccd cl outer) (call (.ref f) vs) Q E s :=
  wpAny_with_toks (Nat.le_refl _) (S p loose mean mg mb dp un gd cn cs a ccd cl outer A₀ base h₀ L m s (fun r s' => s.toks ≤ s'.toks → Q r s') (fun e s' => s.toks ≤ s'.toks → E e s') B F X N T hk hd hu fun r n h' tk' F' N' P hle => ret r n h' tk' hle F' N' P)
/-- the same ledger in another order, on both sides -/
theorem Fn.perm {news₂ : Led} {Post₂ : Value → Led → Nat → Prop} (S : Fn K w f k vs news Post) (h1 : ∀ p ∈ news, p ∈ news₂) (h2 : ∀ r n tk, Post r n tk → ∃ n₂, (∀ p ∈ n₂, p ∈ n) ∧ Post₂ r n₂ tk) : Fn K w f k vs news₂ Post₂ :=
  fun p loose mean mg mb dp un gd cn cs a ccd cl outer A₀ base h₀ L m s Q E B F X N T hk hd hu ret =>
    S p loose mean mg mb dp un gd cn cs a ccd cl outer A₀ base h₀ L m s Q E B F X (fun q hq => N q (h1 q hq)) T hk hd hu fun r n h' tk F' N' P =>
      let ⟨n₂, hs, P₂⟩ := h2 r n tk P
      ret r n₂ h' tk F' (fun q hq => N' q (hs q hq)) P₂
end
theorem news_sub {h₀ h : Heap} {L : Addr} {a b : Led} (N : News h₀ L h a) (hs : ∀ p ∈ b, p ∈ a) : News h₀ L h b := fun p hp => N p (hs p hp)
theorem ne_of_allLt {d x : Addr} {l : Led} (h : AllLt x l) (hx : x ≤ d) : ∀ p ∈ l, p.1 ≠ d := by
  induction l with
  | nil => intro p hp; cases hp
  | cons q r ih =>
    intro p hp
    rcases List.mem_cons.mp hp with rfl | hp
    · exact Nat.ne_of_lt (Nat.lt_of_lt_of_le h.1 hx)
    · exact ih h.2 p hp
theorem ne_of_lt {d x : Addr} {l : Led} (h : ∀ p ∈ l, p.1 < x) (hx : x ≤ d) : ∀ p ∈ l, p.1 ≠ d := fun p hp => Nat.ne_of_lt (Nat.lt_of_lt_of_le (h p hp) hx)
end Mine
namespace Mine
/-- a way out of a block: what was wished for is wished for still -/
def SubQ (Q Q' : Flow → Shared → Prop) : Prop := ∀ f s, Q f s → Q' f s
theorem SubQ.go {Q Q' : Flow → Shared → Prop} (h : SubQ Q Q') {f : Flow} {s : Shared} (k : Q f s) : Q' f s := h f s k
theorem opq {M : Model} {A : Around} {t : Sem Flow} {Q : Flow → Shared → Prop} {E : Value → Shared → Prop} {s : Shared} (h : ∀ Q', SubQ Q Q' → wpAny M A t Q' (fun _ _ => False) s) : wpAny M A t Q E s :=
  wpAny_mono (h Q fun _ _ x => x) (fun _ _ x => x) fun _ _ x => x.elim
/-- a goal laid aside while facts are taken apart -/
theorem hideG {G : Prop} (h : ∀ P : Prop, (G → P) → P) : G := h G id
/-- the way out of a statement: the rest of its block -/
def SeqQ (M : Model) (A : Around) (rest : List Stmt) (env : Env) (Q : Flow → Shared → Prop) (E : Value → Shared → Prop) (Q' : Flow → Shared → Prop) : Prop :=
  ∀ f s, (match f with | .next => wpAny M A (execs rest env) Q E s | f => Q f s) → Q' f s
section
variable {M : Model} {A : Around} {st : Stmt} {rest : List Stmt} {env : Env} {Q Q' : Flow → Shared → Prop} {E : Value → Shared → Prop} {s : Shared}
theorem opqS (h : ∀ Q', SeqQ M A rest env Q E Q' → wpAny M A (exec st env) Q' (fun _ _ => False) s) : wpAny M A (execs (st :: rest) env) Q E s :=
  wpAny_execs_cons (opq fun Q' hQ => h Q' hQ)
theorem SeqQ.next (h : SeqQ M A rest env Q E Q') (k : wpAny M A (execs rest env) Q E s) : Q' .next s := h .next s k
theorem SeqQ.ret {v : Value} (h : SeqQ M A rest env Q E Q') (k : Q (.ret v) s) : Q' (.ret v) s := h (.ret v) s k
theorem SeqQ.brk (h : SeqQ M A rest env Q E Q') (k : Q .brk s) : Q' .brk s := h .brk s k
theorem SeqQ.cont (h : SeqQ M A rest env Q E Q') (k : Q .cont s) : Q' .cont s := h .cont s k
theorem execs_one (h : wpAny M A (exec st env) Q E s) : wpAny M A (execs [st] env) Q E s :=
  wpAny_execs_cons (wpAny_mono h (fun f s' k => by cases f with | next => exact wpAny_execs_nil k | ret v => exact k | brk => exact k | cont => exact k) fun _ _ k => k)
theorem opqSg {hH : Heap} {tk : Nat} (h : ∀ tk' Q', SeqQ M A rest env Q E Q' → wpAny M A (exec st env) Q' (fun _ _ => False) { s with heap := hH, toks := tk' }) : wpAny M A (execs (st :: rest) env) Q E { s with heap := hH, toks := tk } := opqS (h tk)
theorem execs_oneg {hH : Heap} {tk : Nat} (h : ∀ tk', wpAny M A (exec st env) Q E { s with heap := hH, toks := tk' }) : wpAny M A (execs [st] env) Q E { s with heap := hH, toks := tk } := execs_one (h tk)
theorem toksg {hH : Heap} {tk : Nat} {t : Sem Flow} (h : ∀ tk', wpAny M A t Q E { s with heap := hH, toks := tk' }) : wpAny M A t Q E { s with heap := hH, toks := tk } := h tk
theorem isO {t : Sem Flow} {Q₀ : Flow → Shared → Prop} (_ : SubQ Q₀ Q) (h : wpAny M A t Q E s) : wpAny M A t Q E s := h
theorem isS {t : Sem Flow} {Q₀ : Flow → Shared → Prop} {E₀ : Value → Shared → Prop} (_ : SeqQ M A rest env Q₀ E₀ Q) (h : wpAny M A t Q E s) : wpAny M A t Q E s := h
end
/-- a frame's names with one more -/
abbrev upd (m : Str → Option Value) (x : Str) (v : Value) : Str → Option Value := fun y => if y = x then some v else m y
/-- the names that a call binds -/
abbrev lk (l : List (Str × Value)) : Str → Option Value := fun y => l.lookup y
theorem code_defZ {prog : Program} {w : World} {A₀ A : Around} {s : Shared} {base h₀ : Heap} {L : Addr} {m : Str → Option Value} {news : Led} {K : Frag} {p : Program} {loose : List Str} {mean : ExcName → Option Value} {mg mb : Str → Option Value} {env : Env} {outer : List Env} {R : Result → Shared → Prop} {name qual : Str} {params : Arguments} {body : List Stmt} {scope : Scope} {dV kV doc pm cdv ct oc : Value} {an od : Option Addr} {osl : Array (Option Value)} {f : Addr} {vs : List Value} (ns : List Str)
    (B : Below A₀ base outer h₀) (F : Fr h₀ L s.heap m) (X₀ : K.In h₀) (N : News h₀ L s.heap news) (T : Top p loose mean mg mb h₀) (hA : A.frames = some (env :: outer)) (hf : env.frame = some L) (hke : env.scope.kind = .function)
    (ho : K.lookup f = some ⟨oc, od, .func (fnOf name qual params body scope dV kV doc pm an cdv ct), osl⟩) (hcd : codeIn K cdv qual = true) (hroom : A.depth < recursionLimit)
    (hbind : bindArgs (fnOf name qual params body scope dV kV doc pm an cdv ct) ⟨vs, []⟩ = pure (ns.zip vs)) (hloc : (ns.all fun x => decide (scope.names.lookup x = some .local)) = true)
    (h : ∀ g L' h₁ tk, Fr h₀ L g m → Fr g L' h₁ (lk (ns.zip vs).reverse) → News g L' h₁ news → Below A base (env :: outer) g → K.In g → Top p loose mean mg mb g →
      let env' := envOf qual scope L' f cdv; let A' := A.deeper env'; wpAny (model prog w) A' (execs body env')
        (fun fl s' => LeaveK h₀ L m g R (match fl with | .ret v => v | _ => .none) s') (fun _ _ => False)
        { s with heap := h₁, toks := tk })
    (hco : scope.isCoroutine = false) (hgen : scope.isGenerator = false) (hk : scope.kind = .function)
    (hcell : ∀ x ∈ scope.names, x.2 ≠ .cell) : codeAny (model prog w) A (.call (.ref f) ⟨vs, []⟩) R s :=
  code_def B F X₀ N T hA hf hke ho hcd hroom (BindsTo.of_eq hbind) (fun y hy => of_decide_eq_true (List.all_eq_true.mp hloc _ (List.of_mem_zip hy).1)) (fun g L' h₁ FG F' N' B' X' T' => wpAny_mono (h g L' h₁ _ FG F' N' B' X' T') (fun _ _ x => x) fun _ _ x => x.elim) hco hgen hk hcell
theorem len_of {K : Frag} {h : Heap} (_ : K.In h) (e : nsIn K mainGlobals ("len" : Str) = some none) : nsIn K mainGlobals ("len" : Str) = some none := e
theorem store_u {M : Model} {A : Around} {E : Value → Shared → Prop} {s : Shared} {h₀ : Heap} {L a : Addr} {m : Str → Option Value} {cn : Str} {cs : Scope} {ccd : Value} {cl : List (Str × Addr)} {x : Str} {v : Value} {Q : Unit → Shared → Prop} {news : Led} (F : Fr h₀ L s.heap m) (N : News h₀ L s.heap news)
    (h : ∀ h', let m' := upd m x v; Fr h₀ L h' m' → News h₀ L h' news → Q () { s with heap := h', toks := s.toks + 1 })
    (hk : cs.kind = .function) (hx : (envX cn cs L a ccd cl).kindOf x = some .local) : wpAny M A (storeName (envX cn cs L a ccd cl) x v) Q E s := storeX_L F N h hk hx
theorem rm0 {d k n : Nat} (h : d + k < n) : d < n := Nat.lt_of_le_of_lt (Nat.le_add_right _ _) h
theorem rm1 {d k n a : Nat} (h : d + k < n) (ha : a ≤ k) : d + a < n := Nat.lt_of_le_of_lt (Nat.add_le_add_left ha _) h
theorem rm2 {d k n a b : Nat} (h : d + k < n) (ha : a + b ≤ k) : d + a + b < n := by rw [Nat.add_assoc]; exact rm1 h ha
theorem bx1 {c a n m : Int} (h : c < n) (hm : n + a ≤ m) : c + a < m := Int.lt_of_lt_of_le (Int.add_lt_add_right h a) hm
theorem bx2 {c a b n m : Int} (h : c < n) (hm : n + a + b ≤ m) : c + a + b < m := Int.lt_of_lt_of_le (Int.add_lt_add_right (Int.add_lt_add_right h a) b) hm
theorem bx3 {c a b d n m : Int} (h : c < n) (hm : n + a + b + d ≤ m) : c + a + b + d < m := Int.lt_of_lt_of_le (Int.add_lt_add_right (Int.add_lt_add_right (Int.add_lt_add_right h a) b) d) hm
theorem bx4 {c a b d e n m : Int} (h : c < n) (hm : n + a + b + d + e ≤ m) : c + a + b + d + e < m := Int.lt_of_lt_of_le (Int.add_lt_add_right (Int.add_lt_add_right (Int.add_lt_add_right (Int.add_lt_add_right h a) b) d) e) hm
theorem bx5 {c a b d e f n m : Int} (h : c < n) (hm : n + a + b + d + e + f ≤ m) : c + a + b + d + e + f < m := Int.lt_of_lt_of_le (Int.add_lt_add_right (Int.add_lt_add_right (Int.add_lt_add_right (Int.add_lt_add_right (Int.add_lt_add_right h a) b) d) e) f) hm
theorem bx6 {c a b d e f g n m : Int} (h : c < n) (hm : n + a + b + d + e + f + g ≤ m) : c + a + b + d + e + f + g < m := Int.lt_of_lt_of_le (Int.add_lt_add_right (Int.add_lt_add_right (Int.add_lt_add_right (Int.add_lt_add_right (Int.add_lt_add_right (Int.add_lt_add_right h a) b) d) e) f) g) hm
theorem bx7 {c a b d e f g k n m : Int} (h : c < n) (hm : n + a + b + d + e + f + g + k ≤ m) : c + a + b + d + e + f + g + k < m := Int.lt_of_lt_of_le (Int.add_lt_add_right (Int.add_lt_add_right (Int.add_lt_add_right (Int.add_lt_add_right (Int.add_lt_add_right (Int.add_lt_add_right (Int.add_lt_add_right h a) b) d) e) f) g) k) hm
/-- orders below d, laid aside -/
def HidD (_ : Nat) (P : Prop) : Prop := P
theorem HidD.mk {a d : Nat} {P : Prop} (h : @LT.lt Nat _ a d ∧ P) : HidD d (@LT.lt Nat _ a d ∧ P) := h
theorem HidD.mk1 {a d : Nat} (h : @LT.lt Nat _ a d) : HidD d (@LT.lt Nat _ a d) := h
/-- a stands below d in P -/
inductive NeC (a d : Nat) : Prop → Prop
  | here {R : Prop} : NeC a d (@LT.lt Nat _ a d ∧ R)
  | last : NeC a d (@LT.lt Nat _ a d)
  | there {P R : Prop} : NeC a d R → NeC a d (P ∧ R)
theorem NeC.lt {a d : Nat} {P : Prop} (k : NeC a d P) (h : P) : @LT.lt Nat _ a d := by
  induction k with
  | here => exact h.1
  | last => exact h
  | there _ ih => exact ih h.2
theorem nd0 {a d : Nat} {P : Prop} (h : HidD d P) (k : NeC a d P) : a ≠ d := Nat.ne_of_lt (k.lt h)
theorem nu0 {a d : Nat} {P : Prop} (h : HidD d P) (k : NeC a d P) : d ≠ a := Nat.ne_of_gt (k.lt h)
theorem nu1 {a d : Nat} {P : Prop} (h : HidD d P) (k : NeC a d P) : d + 1 ≠ a := Nat.ne_of_gt (Nat.lt_add_right 1 (k.lt h))
theorem nu2 {a d : Nat} {P : Prop} (h : HidD d P) (k : NeC a d P) : d + 1 + 1 ≠ a := Nat.ne_of_gt (Nat.lt_add_right 2 (k.lt h))
theorem nu3 {a d : Nat} {P : Prop} (h : HidD d P) (k : NeC a d P) : d + 1 + 1 + 1 ≠ a := Nat.ne_of_gt (Nat.lt_add_right 3 (k.lt h))
theorem nu4 {a d : Nat} {P : Prop} (h : HidD d P) (k : NeC a d P) : d + 1 + 1 + 1 + 1 ≠ a := Nat.ne_of_gt (Nat.lt_add_right 4 (k.lt h))
theorem nu5 {a d : Nat} {P : Prop} (h : HidD d P) (k : NeC a d P) : d + 1 + 1 + 1 + 1 + 1 ≠ a := Nat.ne_of_gt (Nat.lt_add_right 5 (k.lt h))
theorem nd1 {a d : Nat} {P : Prop} (h : HidD d P) (k : NeC a d P) : a ≠ d + 1 := Nat.ne_of_lt (Nat.lt_add_right 1 (k.lt h))
theorem nd2 {a d : Nat} {P : Prop} (h : HidD d P) (k : NeC a d P) : a ≠ d + 1 + 1 := Nat.ne_of_lt (Nat.lt_add_right 2 (k.lt h))
theorem nd3 {a d : Nat} {P : Prop} (h : HidD d P) (k : NeC a d P) : a ≠ d + 1 + 1 + 1 := Nat.ne_of_lt (Nat.lt_add_right 3 (k.lt h))
theorem nd4 {a d : Nat} {P : Prop} (h : HidD d P) (k : NeC a d P) : a ≠ d + 1 + 1 + 1 + 1 := Nat.ne_of_lt (Nat.lt_add_right 4 (k.lt h))
theorem nd5 {a d : Nat} {P : Prop} (h : HidD d P) (k : NeC a d P) : a ≠ d + 1 + 1 + 1 + 1 + 1 := Nat.ne_of_lt (Nat.lt_add_right 5 (k.lt h))
end Mine
namespace Mine
section
variable {K : Params → Frag} {w : World} {f : Addr} {k : Nat} {vs : List Value} {news : Led}
theorem Fn.useV {v₀ : Value} (S : Fn K w f k vs news fun r n _ => r = v₀ ∧ n = news) {p : Program} {loose : List Str} {mean : ExcName → Option Value} {mg mb : Str → Option Value}
    {dp un : Nat} {gd : Option (List Code)} {cn : Str} {cs : Scope} {a : Addr} {ccd : Value} {cl : List (Str × Addr)} {outer : List Env} {A₀ : Around} {base h₀ : Heap} {L : Addr} {m : Str → Option Value} {s : Shared} {hH : Heap} {tk : Nat}
    {Q E : Value → Shared → Prop} (B : Below A₀ base outer h₀) (F : Fr h₀ L hH m) (X : (K w.params).In h₀) (N : News h₀ L hH news) (T : Top p loose mean mg mb h₀) (hk : cs.kind = .function) (hd : dp + k < recursionLimit) (hu : un + 8 * k < cLine)
    (ret : ∀ h' tk', tk ≤ tk' → Fr h₀ L h' m → News h₀ L h' news → Q v₀ { s with heap := h', toks := tk' }) :
    wpAny (model PySem.Challenge.rw_nz0043_01.row.toRowW.prog w) (ktrTop dp un gd cn cs L a ccd cl outer) (call (.ref f) vs) Q E { s with heap := hH, toks := tk } :=
  S.use (s := { s with heap := hH, toks := tk }) B F X N T hk hd hu fun _ _ h' tk' hle F' N' ⟨e1, e2⟩ => by subst e1; subst e2; exact ret h' tk' hle F' N'
theorem Fn.useG {g : Tok → Value} (S : Fn K w f k vs news fun r n _ => (∃ t, r = g t) ∧ n = news) {p : Program} {loose : List Str} {mean : ExcName → Option Value} {mg mb : Str → Option Value}
    {dp un : Nat} {gd : Option (List Code)} {cn : Str} {cs : Scope} {a : Addr} {ccd : Value} {cl : List (Str × Addr)} {outer : List Env} {A₀ : Around} {base h₀ : Heap} {L : Addr} {m : Str → Option Value} {s : Shared} {hH : Heap} {tk : Nat}
    {Q E : Value → Shared → Prop} (B : Below A₀ base outer h₀) (F : Fr h₀ L hH m) (X : (K w.params).In h₀) (N : News h₀ L hH news) (T : Top p loose mean mg mb h₀) (hk : cs.kind = .function) (hd : dp + k < recursionLimit) (hu : un + 8 * k < cLine)
    (ret : ∀ t h' tk', tk ≤ tk' → Fr h₀ L h' m → News h₀ L h' news → Q (g t) { s with heap := h', toks := tk' }) :
    wpAny (model PySem.Challenge.rw_nz0043_01.row.toRowW.prog w) (ktrTop dp un gd cn cs L a ccd cl outer) (call (.ref f) vs) Q E { s with heap := hH, toks := tk } :=
  S.use (s := { s with heap := hH, toks := tk }) B F X N T hk hd hu fun _ _ h' tk' hle F' N' ⟨⟨t, e1⟩, e2⟩ => by subst e1; subst e2; exact ret t h' tk' hle F' N'
theorem Fn.useL {R : List Value → Prop} {off : Addr → Prop} (S : Fn K w f k vs news fun r n _ => ∃ D vs' k', r = .ref D ∧ n = (D, PySem.W.listOf vs'.toArray k') :: news ∧ R vs' ∧ off D) {p : Program} {loose : List Str} {mean : ExcName → Option Value} {mg mb : Str → Option Value}
    {dp un : Nat} {gd : Option (List Code)} {cn : Str} {cs : Scope} {a : Addr} {ccd : Value} {cl : List (Str × Addr)} {outer : List Env} {A₀ : Around} {base h₀ : Heap} {L : Addr} {m : Str → Option Value} {s : Shared} {hH : Heap} {tk : Nat}
    {Q E : Value → Shared → Prop} (B : Below A₀ base outer h₀) (F : Fr h₀ L hH m) (X : (K w.params).In h₀) (N : News h₀ L hH news) (T : Top p loose mean mg mb h₀) (hk : cs.kind = .function) (hd : dp + k < recursionLimit) (hu : un + 8 * k < cLine)
    (ret : ∀ D vs' k' h' tk', tk ≤ tk' → Fr h₀ L h' m → let n' := (D, PySem.W.listOf vs'.toArray k') :: news; News h₀ L h' n' → R vs' → off D → Q (.ref D) { s with heap := h', toks := tk' }) :
    wpAny (model PySem.Challenge.rw_nz0043_01.row.toRowW.prog w) (ktrTop dp un gd cn cs L a ccd cl outer) (call (.ref f) vs) Q E { s with heap := hH, toks := tk } :=
  S.use (s := { s with heap := hH, toks := tk }) B F X N T hk hd hu fun _ _ h' tk' hle F' N' ⟨D, vs', k', e1, e2, hR, ho⟩ => by subst e1; subst e2; exact ret D vs' k' h' tk' hle F' N' hR ho
theorem Fn.useX {R : Addr → Led → Prop} {R2 : Led → Prop} (S : Fn K w f k vs news fun r n _ => ∃ A ex, r = .ref A ∧ n = news ++ ex ∧ R A ex ∧ R2 ex) {p : Program} {loose : List Str} {mean : ExcName → Option Value} {mg mb : Str → Option Value}
    {dp un : Nat} {gd : Option (List Code)} {cn : Str} {cs : Scope} {a : Addr} {ccd : Value} {cl : List (Str × Addr)} {outer : List Env} {A₀ : Around} {base h₀ : Heap} {L : Addr} {m : Str → Option Value} {s : Shared} {hH : Heap} {tk : Nat}
    {Q E : Value → Shared → Prop} (B : Below A₀ base outer h₀) (F : Fr h₀ L hH m) (X : (K w.params).In h₀) (N : News h₀ L hH news) (T : Top p loose mean mg mb h₀) (hk : cs.kind = .function) (hd : dp + k < recursionLimit) (hu : un + 8 * k < cLine)
    (ret : ∀ A ex h' tk', tk ≤ tk' → Fr h₀ L h' m → let n' := news ++ ex; News h₀ L h' n' → R A ex → R2 ex → Q (.ref A) { s with heap := h', toks := tk' }) :
    wpAny (model PySem.Challenge.rw_nz0043_01.row.toRowW.prog w) (ktrTop dp un gd cn cs L a ccd cl outer) (call (.ref f) vs) Q E { s with heap := hH, toks := tk } :=
  S.use (s := { s with heap := hH, toks := tk }) B F X N T hk hd hu fun _ _ h' tk' hle F' N' ⟨A, ex, e1, e2, hR, ho⟩ => by subst e1; subst e2; exact ret A ex h' tk' hle F' N' hR ho
end
end Mine
namespace Mine
/-- what stands in one ledger stands in another -/
abbrev Sb (a b : Led) : Prop := ∀ p ∈ a, p ∈ b
theorem sb_refl {a : Led} : Sb a a := fun _ h => h
theorem sb_nil {b : Led} : Sb [] b := fun _ h => nomatch h
theorem sb_tail {a b : Led} {x : Addr × Obj} (h : Sb a b) : Sb a (x :: b) := fun p k => .tail _ (h p k)
theorem sb_cons {a b : Led} {x : Addr × Obj} (k : x ∈ b) (h : Sb a b) : Sb (x :: a) b := fun p q => by
  rcases List.mem_cons.mp q with rfl | q
  · exact k
  · exact h p q
theorem sb_app {a b c : Led} (h : Sb a c) (k : Sb b c) : Sb (a ++ b) c := fun p q => (List.mem_append.mp q).elim (h p) (k p)
theorem sb_left {a b c : Led} (h : Sb a b) : Sb a (b ++ c) := fun p k => List.mem_append_left _ (h p k)
theorem sb_right {a b c : Led} (h : Sb a c) : Sb a (b ++ c) := fun p k => List.mem_append_right _ (h p k)
end Mine
namespace Mine
section
variable {a d : Nat} {o : Obj} {l : Led}
theorem alt {l : Led} (h : AllLt d l) : ∀ p ∈ l, @LT.lt Nat _ p.1 d := by
  induction l with
  | nil => exact fun _ hp => nomatch hp
  | cons q r ih => exact fun p hp => (List.mem_cons.mp hp).elim (fun e => e ▸ h.1) (ih h.2 p)
theorem al0 (h : AllLt d l) (k : (a, o) ∈ l) : a ≠ d := Nat.ne_of_lt (alt h _ k)
theorem au0 (h : AllLt d l) (k : (a, o) ∈ l) : d ≠ a := Nat.ne_of_gt (alt h _ k)
theorem al1 (h : AllLt d l) (k : (a, o) ∈ l) : a ≠ d + 1 := Nat.ne_of_lt (Nat.lt_add_right 1 (alt h _ k))
theorem al2 (h : AllLt d l) (k : (a, o) ∈ l) : a ≠ d + 1 + 1 := Nat.ne_of_lt (Nat.lt_add_right 2 (alt h _ k))
theorem al3 (h : AllLt d l) (k : (a, o) ∈ l) : a ≠ d + 1 + 1 + 1 := Nat.ne_of_lt (Nat.lt_add_right 3 (alt h _ k))
theorem al4 (h : AllLt d l) (k : (a, o) ∈ l) : a ≠ d + 1 + 1 + 1 + 1 := Nat.ne_of_lt (Nat.lt_add_right 4 (alt h _ k))
theorem al5 (h : AllLt d l) (k : (a, o) ∈ l) : a ≠ d + 1 + 1 + 1 + 1 + 1 := Nat.ne_of_lt (Nat.lt_add_right 5 (alt h _ k))
theorem au1 (h : AllLt d l) (k : (a, o) ∈ l) : d + 1 ≠ a := (al1 h k).symm
theorem au2 (h : AllLt d l) (k : (a, o) ∈ l) : d + 1 + 1 ≠ a := (al2 h k).symm
theorem au3 (h : AllLt d l) (k : (a, o) ∈ l) : d + 1 + 1 + 1 ≠ a := (al3 h k).symm
theorem au4 (h : AllLt d l) (k : (a, o) ∈ l) : d + 1 + 1 + 1 + 1 ≠ a := (al4 h k).symm
theorem au5 (h : AllLt d l) (k : (a, o) ∈ l) : d + 1 + 1 + 1 + 1 + 1 ≠ a := (al5 h k).symm
theorem of0 (h : ∀ p ∈ l, p.1 ≠ d) (k : (a, o) ∈ l) : a ≠ d := h _ k
theorem of1 (h : ∀ p ∈ l, p.1 ≠ d) (k : (a, o) ∈ l) : d ≠ a := (h _ k).symm
end
section
variable {M : Model} {A : Around} {E : Value → Shared → Prop} {s : Shared} {h₀ hH : Heap} {L : Addr} {m : Str → Option Value} {news : Led} {tk : Nat}
theorem newList_L {vs : List Value} {Q : Value → Shared → Prop} (F : Fr h₀ L hH m) (N : News h₀ L hH news) (hsz : vs.length ≤ sizeLine)
    (h : ∀ l h', Fr h₀ L h' m → let n' := (l, listOf vs.toArray 0) :: news; News h₀ L h' n' → AllLt l news → Q (.ref l) { s with heap := h', toks := tk }) : wpAny M A (newList vs) Q E { s with heap := hH, toks := tk } :=
  newList_K F N (fun l h' F' N' a => h l h' F' N' (allLt_of a)) hsz
theorem newTuple_L {vs : List Value} {Q : Value → Shared → Prop} (F : Fr h₀ L hH m) (N : News h₀ L hH news) (hsz : vs.length ≤ sizeLine)
    (h : ∀ D h', Fr h₀ L h' m → let n' := (D, ({ cls := .type "tuple", data := .seq vs.toArray } : Obj)) :: news; News h₀ L h' n' → AllLt D news → Q (.ref D) { s with heap := h', toks := tk }) : wpAny M A (newTuple vs) Q E { s with heap := hH, toks := tk } :=
  kup_newTuple F N (fun D h' F' N' a => h D h' F' N' (allLt_of a)) hsz
end
end Mine
namespace Mine
theorem updF_app {d : Addr} {o : Obj} {a ex : Led} {g : Obj → Led} (U : UpdF d o a g) (h : ∀ p ∈ ex, p.1 ≠ d) : UpdF d o (a ++ ex) fun o' => g o' ++ ex := by
  induction U with
  | head k => exact .head fun p hp => (List.mem_append.mp hp).elim (k p) (h p)
  | tail k _ ih => exact .tail k ih
theorem upd_app {d : Addr} {o o' : Obj} {a a' ex : Led} (U : Upd d o o' a a') (h : ∀ p ∈ ex, p.1 ≠ d) : Upd d o o' (a ++ ex) (a' ++ ex) := by
  induction U with
  | head k => exact .head fun p hp => (List.mem_append.mp hp).elim (k p) (h p)
  | tail k _ ih => exact .tail k ih
section
variable {M : Model} {A : Around} {E : Value → Shared → Prop} {s : Shared} {h₀ hH : Heap} {L a : Addr} {m : Str → Option Value} {cn : Str} {cs : Scope} {ccd : Value} {cl : List (Str × Addr)} {news : Led} {tk : Nat}
theorem store_c {x : Str} {v : Value} {Q : Unit → Shared → Prop} {g : Obj → Led} {c : Addr} {o : Obj} {v₀ : Option Value} (F : Fr h₀ L hH m) (N : News h₀ L hH news) (hc : cl.lookup x = some c) (U : UpdF c o news g) (hd : o.data = .cell v₀)
    (h : ∀ h' o', Fr h₀ L h' m → let n' := g o'; News h₀ L h' n' → o'.data = .cell (some v) → Q () { s with heap := h', toks := tk })
    (hk : cs.kind = .function) (hx : (envX cn cs L a ccd cl).kindOf x = some .cell) : wpAny M A (storeName (envX cn cs L a ccd cl) x v) Q E { s with heap := hH, toks := tk } :=
  storeX_C (s := { s with heap := hH, toks := tk }) F N hc U hd h hk hx
end
end Mine
namespace Mine
section
variable {I C D a : Nat} {o : Obj} {l : Led}
theorem o3I (h : LCg.Off3 I C D l) (k : (a, o) ∈ l) : a ≠ I := (h.mem _ k).1
theorem o3C (h : LCg.Off3 I C D l) (k : (a, o) ∈ l) : a ≠ C := (h.mem _ k).2.1
theorem o3D (h : LCg.Off3 I C D l) (k : (a, o) ∈ l) : a ≠ D := (h.mem _ k).2.2
theorem o3i (h : LCg.Off3 I C D l) (k : (a, o) ∈ l) : I ≠ a := (h.mem _ k).1.symm
theorem o3c (h : LCg.Off3 I C D l) (k : (a, o) ∈ l) : C ≠ a := (h.mem _ k).2.1.symm
theorem o3d (h : LCg.Off3 I C D l) (k : (a, o) ∈ l) : D ≠ a := (h.mem _ k).2.2.symm
theorem n3a (h : (@Ne Nat I C) ∧ (@Ne Nat I D) ∧ (@Ne Nat C D)) : I ≠ C := h.1
theorem n3b (h : (@Ne Nat I C) ∧ (@Ne Nat I D) ∧ (@Ne Nat C D)) : I ≠ D := h.2.1
theorem n3c (h : (@Ne Nat I C) ∧ (@Ne Nat I D) ∧ (@Ne Nat C D)) : C ≠ D := h.2.2
theorem n3d (h : (@Ne Nat I C) ∧ (@Ne Nat I D) ∧ (@Ne Nat C D)) : C ≠ I := h.1.symm
theorem n3e (h : (@Ne Nat I C) ∧ (@Ne Nat I D) ∧ (@Ne Nat C D)) : D ≠ I := h.2.1.symm
theorem n3f (h : (@Ne Nat I C) ∧ (@Ne Nat I D) ∧ (@Ne Nat C D)) : D ≠ C := h.2.2.symm
theorem off1m {l : Led} (h : LCg.Off1 D l) : ∀ p ∈ l, @Ne Nat p.1 D := by
  induction l with
  | nil => exact fun _ hp => nomatch hp
  | cons q r ih => exact fun p hp => (List.mem_cons.mp hp).elim (fun e => e ▸ h.1) (ih h.2 p)
theorem o1a (h : LCg.Off1 D l) (k : (a, o) ∈ l) : a ≠ D := off1m h _ k
theorem o1b (h : LCg.Off1 D l) (k : (a, o) ∈ l) : D ≠ a := (off1m h _ k).symm
end
end Mine
namespace Mine
section
variable {d : Nat} {l r : Led}
theorem as0 (h : AllLt d l) (k : Sb r l) : ∀ p ∈ r, p.1 ≠ d := fun p q => Nat.ne_of_lt (alt h p (k p q))
theorem as1 (h : AllLt d l) (k : Sb r l) : ∀ p ∈ r, p.1 ≠ d + 1 := fun p q => Nat.ne_of_lt (Nat.lt_add_right 1 (alt h p (k p q)))
theorem as2 (h : AllLt d l) (k : Sb r l) : ∀ p ∈ r, p.1 ≠ d + 1 + 1 := fun p q => Nat.ne_of_lt (Nat.lt_add_right 2 (alt h p (k p q)))
theorem as3 (h : AllLt d l) (k : Sb r l) : ∀ p ∈ r, p.1 ≠ d + 1 + 1 + 1 := fun p q => Nat.ne_of_lt (Nat.lt_add_right 3 (alt h p (k p q)))
theorem as4 (h : AllLt d l) (k : Sb r l) : ∀ p ∈ r, p.1 ≠ d + 1 + 1 + 1 + 1 := fun p q => Nat.ne_of_lt (Nat.lt_add_right 4 (alt h p (k p q)))
theorem as5 (h : AllLt d l) (k : Sb r l) : ∀ p ∈ r, p.1 ≠ d + 1 + 1 + 1 + 1 + 1 := fun p q => Nat.ne_of_lt (Nat.lt_add_right 5 (alt h p (k p q)))
end
end Mine

end
noncomputable section
open PySem PySem.W PyProof.Rows PySem.Spec PySem.Calls
set_option Elab.async false
set_option maxRecDepth 100000
namespace Mine
def pvN (k : Option NameKind) (d : Bool) (m : Option Value) (t : Nat) : Option (Value × Nat) := match k with
  | some .local => if d = false then m.map fun v => (v, t) else none
  | _ => none
def pvC (c : Const) (t : Nat) : Option (Value × Nat) := match c with
  | .int n => some (.int n t, t + 1)
  | .str x => some (.str x t, t + 1)
  | .none => some (.none, t)
  | _ => none
/-- a plain operand: a local name or a constant; its value, the tokens behind it -/
def pv (kd : Str → Option NameKind) (m : Str → Option Value) (e : Expr) (t : Nat) : Option (Value × Nat) := match e with
  | .Name x _ => pvN (kd x) (x == ("__debug__" : Str)) (m x) t
  | .Constant c _ _ => pvC c t
  | _ => none
noncomputable def pvs (kd : Str → Option NameKind) (m : Str → Option Value) : List Expr → Nat → Option (List Value × Nat)
  | [], t => some ([], t)
  | e :: r, t => (pv kd m e t).bind fun p => (pvs kd m r p.2).bind fun q => some (p.1 :: q.1, q.2)
section
variable {M : Model} {A : Around} {E : Value → Shared → Prop} {s : Shared} {h₀ : Heap} {L a : Addr} {m : Str → Option Value} {cn : Str} {cs : Scope} {ccd : Value} {cl : List (Str × Addr)}
theorem pvN_inv {k : Option NameKind} {d : Bool} {m : Option Value} {t t' : Nat} {v : Value} (h : pvN k d m t = some (v, t')) : k = some .local ∧ d = false ∧ m = some v ∧ t = t' := by
  unfold pvN at h
  split at h
  · cases d with
    | true => cases h
    | false => cases m with
      | none => cases h
      | some w => cases h; exact ⟨rfl, rfl, rfl, rfl⟩
  · cases h
theorem pv_star {kd : Str → Option NameKind} {e : Expr} {t : Nat} {r : Value × Nat} {env : Env} (h : pv kd m e t = some r) (l : List Expr) : starEach (e :: l) env = (false, eval e env) :: starEach l env := by
  unfold pv at h
  split at h
  · rfl
  · rfl
  · cases h
theorem pv_ok {e : Expr} {v : Value} {t : Nat} {Q : Value → Shared → Prop} (F : Fr h₀ L s.heap m) (hk : cs.kind = .function) (h : pv (envX cn cs L a ccd cl).kindOf m e s.toks = some (v, t)) (k : Q v { s with toks := t }) :
    wpAny M A (eval e (envX cn cs L a ccd cl)) Q E s := by
  unfold pv at h
  split at h
  · obtain ⟨h1, h2, h3, h4⟩ := pvN_inv h
    subst h4
    exact nameX_L F h3 k hk h1 h2
  · unfold pvC at h
    split at h
    · cases h; exact wpAny_Constant_int k
    · cases h; exact Calls.Constant_str k
    · cases h; exact wpAny_Constant_none k
    · cases h
  · cases h
theorem pvs_ok {pos : Pos} {args : List Expr} : ∀ {vs : List Value} {t : Nat} {s : Shared} {Q : List Value → Shared → Prop} (_ : Fr h₀ L s.heap m) (_ : cs.kind = .function) (_ : pvs (envX cn cs L a ccd cl).kindOf m args s.toks = some (vs, t)) (_ : Q vs { s with toks := t }),
    wpAny M A (spliced (backTo pos (starEach args (envX cn cs L a ccd cl)))) Q E s := by
  induction args with
  | nil => intro vs t s Q F hk h k; cases h; exact args_nil k
  | cons e r ih =>
    intro vs t s Q F hk h k
    obtain ⟨⟨v, t1⟩, hv, h⟩ := Option.bind_eq_some_iff.mp h
    obtain ⟨⟨ws, t2⟩, hw, h⟩ := Option.bind_eq_some_iff.mp h
    cases h
    exact args_cons (pv_ok F hk hv (ih (s := { s with toks := t1 }) F hk hw k)) (pv_star hv r)
end
end Mine
namespace Mine
/-- a plain operand, handed on -/
def pvK (kd : Str → Option NameKind) (m : Str → Option Value) (e : Expr) (t : Nat) (k : Value → Nat → Prop) : Prop := match e with
  | .Name x _ => match kd x with
    | some .local => match (x == ("__debug__" : Str)) with
      | true => False
      | false => match m x with
        | some v => k v t
        | none => False
    | _ => False
  | .Constant c _ _ => match c with
    | .int n => k (.int n t) (t + 1)
    | .str x => k (.str x t) (t + 1)
    | .none => k .none t
    | _ => False
  | _ => False
noncomputable def pvsK (kd : Str → Option NameKind) (m : Str → Option Value) : List Expr → Nat → (List Value → Nat → Prop) → Prop
  | [], t, k => k [] t
  | e :: r, t, k => pvK kd m e t fun v t' => pvsK kd m r t' fun vs => k (v :: vs)
theorem pvK_inv {kd : Str → Option NameKind} {m : Str → Option Value} {e : Expr} {t : Nat} {k : Value → Nat → Prop} (h : pvK kd m e t k) : ∃ v t', pv kd m e t = some (v, t') ∧ k v t' := by
  unfold pvK at h
  split at h
  · rename_i x p
    split at h
    · rename_i hk
      split at h
      · exact h.elim
      · rename_i hd
        split at h
        · rename_i v hm
          exact ⟨v, t, by show pvN (kd x) _ (m x) t = _; rw [hk, hd, hm]; rfl, h⟩
        · exact h.elim
    · exact h.elim
  · split at h
    · exact ⟨_, _, rfl, h⟩
    · exact ⟨_, _, rfl, h⟩
    · exact ⟨_, _, rfl, h⟩
    · exact h.elim
  · exact h.elim
theorem pvsK_inv {kd : Str → Option NameKind} {m : Str → Option Value} : ∀ {l : List Expr} {t : Nat} {k : List Value → Nat → Prop}, pvsK kd m l t k → ∃ vs t', pvs kd m l t = some (vs, t') ∧ k vs t'
  | [], _, _, h => ⟨[], _, rfl, h⟩
  | e :: r, t, k, h => by
    obtain ⟨v, t1, hv, h⟩ := pvK_inv h
    obtain ⟨vs, t2, hs, h⟩ := pvsK_inv h
    exact ⟨v :: vs, t2, by unfold pvs; rw [hv]; show (pvs kd m r t1).bind _ = _; rw [hs]; rfl, h⟩
end Mine

end
noncomputable section
open PySem PySem.W PyProof.Rows PySem.Spec PySem.Calls
set_option Elab.async false
set_option maxRecDepth 100000
namespace Mine
/-- a thing that can be reckoned, by its look -/
noncomputable def evE : Nat → Expr → Bool
  | 0, _ => false
  | n + 1, e => match e with
    | .Name _ _ => true
    | .Constant _ _ _ => true
    | .BinOp l _ r _ => evE n l && evE n r
    | .Call (.Name _ _) as _ _ => as.all (evE n)
    | _ => false
/-- the local names at hand -/
def Names (_ : List Str) : Prop := True
inductive InN (x : Str) : List Str → Prop
  | here {l : List Str} : InN x (x :: l)
  | there {y : Str} {l : List Str} : InN x l → InN x (y :: l)
inductive AllN (ns : List Str) : List Expr → Prop
  | nil : AllN ns []
  | nm {x : Str} {p : Pos} {r : List Expr} : InN x ns → AllN ns r → AllN ns (.Name x p :: r)
  | co {c : Const} {k : Nat} {p : Pos} {r : List Expr} : AllN ns r → AllN ns (.Constant c k p :: r)
def evO : Option Expr → Bool
  | none => true
  | some e => evE 4 e
/-- an operand reckoned: local names, constants, whole numbers added, multiplied, the length of a text; the tokens behind it -/
inductive Ev (kd : Str → Option NameKind) (m : Str → Option Value) : Expr → Nat → Value → Nat → Prop
  | at {e : Expr} {t : Nat} {v : Value} {t' : Nat} : pv kd m e t = some (v, t') → Ev kd m e t v t'
  | add {l r : Expr} {p : Pos} {t t1 t2 : Nat} {a b : Int} {u u' : Tok} : Ev kd m l t (.int a u) t1 → Ev kd m r t1 (.int b u') t2 → Ev kd m (.BinOp l .Add r p) t (.int (a + b) t2) (t2 + 1)
  | sub {l r : Expr} {p : Pos} {t t1 t2 : Nat} {a b : Int} {u u' : Tok} : Ev kd m l t (.int a u) t1 → Ev kd m r t1 (.int b u') t2 → Ev kd m (.BinOp l .Sub r p) t (.int (a - b) t2) (t2 + 1)
  | mul {l r : Expr} {p : Pos} {t t1 t2 : Nat} {a b : Int} {u u' : Tok} : Ev kd m l t (.int a u) t1 → Ev kd m r t1 (.int b u') t2 → IntMulOk a b → Ev kd m (.BinOp l .Mult r p) t (.int (a * b) t2) (t2 + 1)
  | len {e : Expr} {pf p : Pos} {t t1 : Nat} {x : Str} {u : Tok} : kd "len" = some .globalImplicit → Ev kd m e t (.str x u) t1 → x.length ≤ 1152921504606846976 → Ev kd m (.Call (.Name "len" pf) [e] [] p) t (.int x.length (t1 + 1)) (t1 + 1 + 1)
inductive Evs (kd : Str → Option NameKind) (m : Str → Option Value) : List Expr → Nat → List Value → Nat → Prop
  | at {l : List Expr} {t : Nat} {vs : List Value} {t' : Nat} : pvs kd m l t = some (vs, t') → Evs kd m l t vs t'
  | cons {e : Expr} {l : List Expr} {t t1 t2 : Nat} {v : Value} {vs : List Value} : Ev kd m e t v t1 → Evs kd m l t1 vs t2 → Evs kd m (e :: l) t (v :: vs) t2
theorem Evs.at4 {kd : Str → Option NameKind} {m : Str → Option Value} {l : List Expr} {ns : List Str} {t : Nat} {vs : List Value} {t' : Nat} (_ : Names ns) (_ : AllN ns l) (h : pvsK kd m l t fun a b => a = vs ∧ b = t') : Evs kd m l t vs t' :=
  let ⟨_, _, e, e1, e2⟩ := pvsK_inv h
  .at (e1 ▸ e2 ▸ e)
theorem Ev.atK {kd : Str → Option NameKind} {m : Str → Option Value} {e : Expr} {t : Nat} {v : Value} {t' : Nat} (h : pvK kd m e t fun a b => a = v ∧ b = t') : Ev kd m e t v t' :=
  let ⟨_, _, e, e1, e2⟩ := pvK_inv h
  .at (e1 ▸ e2 ▸ e)
theorem Ev.at4 {kd : Str → Option NameKind} {m : Str → Option Value} {e : Expr} {ns : List Str} {t : Nat} {v : Value} {t' : Nat} (_ : Names ns) (_ : AllN ns [e]) (h : pvK kd m e t fun a b => a = v ∧ b = t') : Ev kd m e t v t' := .atK h
section
variable {prog : Program} {w : World} {A : Around} {E : Value → Shared → Prop} {s : Shared} {h₀ : Heap} {L a : Addr} {m : Str → Option Value} {cn : Str} {cs : Scope} {ccd : Value} {cl : List (Str × Addr)} {K : Frag} {p : Program} {loose : List Str} {mg mb : Str → Option Value}
theorem Ev.star {kd : Str → Option NameKind} {e : Expr} {t : Nat} {v : Value} {t' : Nat} {env : Env} (h : Ev kd m e t v t') (l : List Expr) : starEach (e :: l) env = (false, eval e env) :: starEach l env := by
  cases h with
  | «at» h => exact pv_star h l
  | _ => rfl
theorem ev_ok (hk : cs.kind = .function) (X : K.In h₀) (T : TopRead p loose mg mb h₀) (hl : nsIn K mainGlobals ("len" : Str) = some none) {e : Expr} {t : Nat} {v : Value} {t' : Nat} (h : Ev (envX cn cs L a ccd cl).kindOf m e t v t') : ∀ {s : Shared} {Q : Value → Shared → Prop},
    Fr h₀ L s.heap m → s.toks = t → Q v { s with toks := t' } → wpAny (model prog w) A (eval e (envX cn cs L a ccd cl)) Q E s := by
  induction h with
  | «at» h => intro s Q F e k; subst e; exact pv_ok F hk h k
  | add _ _ ih1 ih2 => intro s Q F e k; exact wpAny_BinOp (ih1 F e (ih2 (s := { s with toks := _ }) F rfl (P.add_int k)))
  | sub _ _ ih1 ih2 => intro s Q F e k; exact wpAny_BinOp (ih1 F e (ih2 (s := { s with toks := _ }) F rfl (P.sub_int k)))
  | mul _ _ hm ih1 ih2 => intro s Q F e k; exact wpAny_BinOp (ih1 F e (ih2 (s := { s with toks := _ }) F rfl (P.mul_int k hm)))
  | len hx h1 hb ih => 
    intro s Q F e k
    refine Call_ (nameX_B F X T hl (by boot_fast) (by decide) (callWith_builtin1 (args_cons (ih F e (args_nil ?_)) (h1.star _)) (h1.star _) rfl) hk hx (by decide))
    exact P.len_str (by omega) k
theorem Evs.star {kd : Str → Option NameKind} {e : Expr} {r : List Expr} {t : Nat} {vs : List Value} {t' : Nat} {env : Env} (h : Evs kd m (e :: r) t vs t') : starEach (e :: r) env = (false, eval e env) :: starEach r env := by
  cases h with
  | «at» h =>
    obtain ⟨⟨v, t1⟩, hv, _⟩ := Option.bind_eq_some_iff.mp h
    exact pv_star hv r
  | cons h _ => exact h.star r
theorem evs_ok (hk : cs.kind = .function) (X : K.In h₀) (T : TopRead p loose mg mb h₀) (hl : nsIn K mainGlobals ("len" : Str) = some none) {pos : Pos} {args : List Expr} {t : Nat} {vs : List Value} {t' : Nat} (h : Evs (envX cn cs L a ccd cl).kindOf m args t vs t') : ∀ {s : Shared} {Q : List Value → Shared → Prop},
    Fr h₀ L s.heap m → s.toks = t → Q vs { s with toks := t' } → wpAny (model prog w) A (spliced (backTo pos (starEach args (envX cn cs L a ccd cl)))) Q E s := by
  induction h with
  | «at» h => intro s Q F e k; subst e; exact pvs_ok F hk h k
  | cons h _ ih => intro s Q F e k; exact args_cons (ev_ok hk X T hl h F e (ih (s := { s with toks := _ }) F rfl k)) (h.star _)
/-- a def of the heap called with operands to be reckoned -/
theorem call_ev {hH : Heap} {tk : Nat} {f : Str} {g : Value} {pf pos : Pos} {e : Expr} {r : List Expr} {vs : List Value} {t : Nat} {Q : Value → Shared → Prop}
    (he : (e :: r).all (evE 4) = true) (F : Fr h₀ L hH m) (X : K.In h₀) (T : TopRead p loose mg mb h₀) (hf : nsIn K mainGlobals f = some (some g)) (hl : nsIn K mainGlobals ("len" : Str) = some none) (hg : keepIn K g = true) (hk : cs.kind = .function) (hx : (envX cn cs L a ccd cl).kindOf f = some .globalImplicit) (hd : (f == ("__debug__" : Str)) = false)
    (hv : Evs (envX cn cs L a ccd cl).kindOf m (e :: r) tk vs t) (hp : (backTo pos (starEach r (envX cn cs L a ccd cl))).any (·.1) = false)
    (h : wpAny (model prog w) A (call g vs) Q E { s with heap := hH, toks := t }) : wpAny (model prog w) A (eval (.Call (.Name f pf) (e :: r) [] pos) (envX cn cs L a ccd cl)) Q E { s with heap := hH, toks := tk } :=
  Call_ (nameX_K F X T hf (callWith_K X hg (evs_ok hk X T hl hv F rfl ⟨X.keeps F.keep, h⟩) hv.star hp) hk hx hd)
/-- a builtin called so -/
theorem callb_ev {hH : Heap} {tk : Nat} {f : Str} {id : String} {pf pos : Pos} {e : Expr} {r : List Expr} {vs : List Value} {t : Nat} {Q : Value → Shared → Prop}
    (he : (e :: r).all (evE 4) = true) (F : Fr h₀ L hH m) (X : K.In h₀) (T : TopRead p loose mg mb h₀) (hf : nsIn K mainGlobals f = some none) (hb : bootBuiltins f = some (.builtin id)) (hn : f ≠ "__name__") (hl : nsIn K mainGlobals ("len" : Str) = some none) (hk : cs.kind = .function) (hx : (envX cn cs L a ccd cl).kindOf f = some .globalImplicit) (hd : (f == ("__debug__" : Str)) = false)
    (hv : Evs (envX cn cs L a ccd cl).kindOf m (e :: r) tk vs t) (hp : (backTo pos (starEach r (envX cn cs L a ccd cl))).any (·.1) = false)
    (h : wpAny (model prog w) A (call (.builtin id) vs) Q E { s with heap := hH, toks := t }) : wpAny (model prog w) A (eval (.Call (.Name f pf) (e :: r) [] pos) (envX cn cs L a ccd cl)) Q E { s with heap := hH, toks := tk } :=
  Call_ (nameX_B F X T hf hb hn (callWith_builtin1 (evs_ok hk X T hl hv F rfl h) hv.star hp) hk hx hd)
theorem binop_ev {hH : Heap} {tk : Nat} {l r : Expr} {op : Operator} {pos : Pos} {v v' : Value} {t t' : Nat} {Q : Value → Shared → Prop} (he : (evE 4 l && evE 4 r) = true) (F : Fr h₀ L hH m) (X : K.In h₀) (T : TopRead p loose mg mb h₀) (hl : nsIn K mainGlobals ("len" : Str) = some none) (hk : cs.kind = .function)
    (h1 : Ev (envX cn cs L a ccd cl).kindOf m l tk v t) (h2 : Ev (envX cn cs L a ccd cl).kindOf m r t v' t') (h : wpAny (model prog w) A (binaryOp op v v') Q E { s with heap := hH, toks := t' }) :
    wpAny (model prog w) A (eval (.BinOp l op r pos) (envX cn cs L a ccd cl)) Q E { s with heap := hH, toks := tk } :=
  wpAny_BinOp (ev_ok hk X T hl h1 F rfl (ev_ok (s := { s with heap := hH, toks := t }) hk X T hl h2 F rfl h))
/-- a whole expression reckoned -/
theorem ev_val {hH : Heap} {tk : Nat} {e : Expr} {v : Value} {t : Nat} {Q : Value → Shared → Prop} (he : evE 4 e = true) (F : Fr h₀ L hH m) (X : K.In h₀) (T : TopRead p loose mg mb h₀) (hl : nsIn K mainGlobals ("len" : Str) = some none) (hk : cs.kind = .function)
    (h1 : Ev (envX cn cs L a ccd cl).kindOf m e tk v t) (h : Q v { s with heap := hH, toks := t }) : wpAny (model prog w) A (eval e (envX cn cs L a ccd cl)) Q E { s with heap := hH, toks := tk } :=
  ev_ok hk X T hl h1 F rfl h
/-- a local name set to it -/
theorem asg_ev {hH : Heap} {tk : Nat} {x : Str} {px pos : Pos} {e : Expr} {v : Value} {t : Nat} {Q : Flow → Shared → Prop} {news : Led} (he : evE 4 e = true) (F : Fr h₀ L hH m) (N : News h₀ L hH news) (X : K.In h₀) (T : TopRead p loose mg mb h₀) (hl : nsIn K mainGlobals ("len" : Str) = some none) (hk : cs.kind = .function)
    (h1 : Ev (envX cn cs L a ccd cl).kindOf m e tk v t) (hx : (envX cn cs L a ccd cl).kindOf x = some .local) (hs : swapsWith e (some (.Name x px)) pos.line (envX cn cs L a ccd cl) = pure false)
    (h : ∀ h', let m' := upd m x v; Fr h₀ L h' m' → News h₀ L h' news → Q .next { s with heap := h', toks := t + 1 }) : wpAny (model prog w) A (exec (.Assign [.Name x px] e pos) (envX cn cs L a ccd cl)) Q E { s with heap := hH, toks := tk } :=
  wpAny_Assign_Name (ev_ok hk X T hl h1 F rfl (store_u (s := { s with heap := hH, toks := t }) F N h hk hx)) hs
theorem ret_ev {hH : Heap} {tk : Nat} {pos : Pos} {e : Expr} {v : Value} {t : Nat} {Q : Flow → Shared → Prop} (he : evE 4 e = true) (F : Fr h₀ L hH m) (X : K.In h₀) (T : TopRead p loose mg mb h₀) (hl : nsIn K mainGlobals ("len" : Str) = some none) (hk : cs.kind = .function)
    (h1 : Ev (envX cn cs L a ccd cl).kindOf m e tk v t) (h : Q (.ret v) { s with heap := hH, toks := t }) : wpAny (model prog w) A (exec (.Return (some e) pos) (envX cn cs L a ccd cl)) Q E { s with heap := hH, toks := tk } :=
  wpAny_Return_some (ev_ok hk X T hl h1 F rfl h)
/-- operands in a row -/
theorem args_ev {hH : Heap} {tk : Nat} {pos : Pos} {e : Expr} {r : List Expr} {t : Nat} {vs : List Value} {Q : List Value → Shared → Prop} (he : (e :: r).all (evE 4) = true) (F : Fr h₀ L hH m) (X : K.In h₀) (T : TopRead p loose mg mb h₀) (hl : nsIn K mainGlobals ("len" : Str) = some none) (hk : cs.kind = .function)
    (h1 : Evs (envX cn cs L a ccd cl).kindOf m (e :: r) tk vs t) (h : Q vs { s with heap := hH, toks := t }) : wpAny (model prog w) A (spliced (backTo pos (starEach (e :: r) (envX cn cs L a ccd cl)))) Q E { s with heap := hH, toks := tk } :=
  evs_ok hk X T hl h1 F rfl h
/-- an item of something -/
theorem sub_ev {hH : Heap} {tk : Nat} {l r : Expr} {pos : Pos} {v v' : Value} {t t' : Nat} {Q : Value → Shared → Prop} (he : (evE 4 l && evE 4 r) = true) (F : Fr h₀ L hH m) (X : K.In h₀) (T : TopRead p loose mg mb h₀) (hl : nsIn K mainGlobals ("len" : Str) = some none) (hk : cs.kind = .function)
    (h1 : Ev (envX cn cs L a ccd cl).kindOf m l tk v t) (h2 : Ev (envX cn cs L a ccd cl).kindOf m r t v' t') (h : wpAny (model prog w) A (subscriptTail l r v v') Q E { s with heap := hH, toks := t' }) :
    wpAny (model prog w) A (eval (.Subscript l r pos) (envX cn cs L a ccd cl)) Q E { s with heap := hH, toks := tk } :=
  Subscript_ (ev_ok hk X T hl h1 F rfl (ev_ok (s := { s with heap := hH, toks := t }) hk X T hl h2 F rfl h))
theorem cmp_ev {hH : Heap} {tk : Nat} {l r : Expr} {op : CmpOp} {pos : Pos} {v v' : Value} {t t' : Nat} {Q : Value → Shared → Prop} (he : (evE 4 l && evE 4 r) = true) (F : Fr h₀ L hH m) (X : K.In h₀) (T : TopRead p loose mg mb h₀) (hl : nsIn K mainGlobals ("len" : Str) = some none) (hk : cs.kind = .function)
    (h1 : Ev (envX cn cs L a ccd cl).kindOf m l tk v t) (h2 : Ev (envX cn cs L a ccd cl).kindOf m r t v' t') (hm : behindInMarks op r = false) (h : wpAny (model prog w) A (compareOp op v v') Q E { s with heap := hH, toks := t' }) :
    wpAny (model prog w) A (eval (.Compare l [op] [r] pos) (envX cn cs L a ccd cl)) Q E { s with heap := hH, toks := tk } :=
  wpAny_Compare1 (ev_ok hk X T hl h1 F rfl (ev_ok (s := { s with heap := hH, toks := t }) hk X T hl h2 F rfl h)) hm
theorem isTc_ev {hH : Heap} {tk : Nat} {l r : Expr} {op : CmpOp} {pos : Pos} {v v' : Value} {t t' : Nat} {whole : Sem Value} {Q : Bool → Shared → Prop} (he : (evE 4 l && evE 4 r) = true) (F : Fr h₀ L hH m) (X : K.In h₀) (T : TopRead p loose mg mb h₀) (hl : nsIn K mainGlobals ("len" : Str) = some none) (hk : cs.kind = .function)
    (h1 : Ev (envX cn cs L a ccd cl).kindOf m l tk v t) (h2 : Ev (envX cn cs L a ccd cl).kindOf m r t v' t') (hm : behindInMarks op r = false) (h : wpAny (model prog w) A (compareOp op v v') (fun c s' => wpAny (model prog w) A (truthy c) Q E s') E { s with heap := hH, toks := t' }) :
    wpAny (model prog w) A (isTrue (.Compare l [op] [r] pos) (envX cn cs L a ccd cl) whole) Q E { s with heap := hH, toks := tk } :=
  wpAny_isTrue_Compare1 (ev_ok hk X T hl h1 F rfl (ev_ok (s := { s with heap := hH, toks := t }) hk X T hl h2 F rfl h)) hm
/-- an edge of a slice -/
inductive EvO (kd : Str → Option NameKind) (m : Str → Option Value) : Option Expr → Nat → Value → Nat → Prop
  | no {t : Nat} : EvO kd m none t .none t
  | so {e : Expr} {t : Nat} {v : Value} {t' : Nat} : Ev kd m e t v t' → EvO kd m (some e) t v t'
theorem evo_ok (hk : cs.kind = .function) (X : K.In h₀) (T : TopRead p loose mg mb h₀) (hl : nsIn K mainGlobals ("len" : Str) = some none) {o : Option Expr} {t : Nat} {v : Value} {t' : Nat} (h : EvO (envX cn cs L a ccd cl).kindOf m o t v t') {s : Shared} {Q : Value → Shared → Prop} (F : Fr h₀ L s.heap m) (e : s.toks = t) (k : Q v { s with toks := t' }) :
    wpAny (model prog w) A (evalPart o (envX cn cs L a ccd cl)) Q E s := by
  cases h with
  | no => subst e; exact evalPart_none_step k
  | so h => exact evalPart_some_step (ev_ok hk X T hl h F e k)
theorem slice_ev {hH : Heap} {tk : Nat} {lo hi : Option Expr} {pos : Pos} {v v' : Value} {t t' : Nat} {Q : Value → Shared → Prop} (he : (evO lo && evO hi) = true) (F : Fr h₀ L hH m) (X : K.In h₀) (T : TopRead p loose mg mb h₀) (hl : nsIn K mainGlobals ("len" : Str) = some none) (hk : cs.kind = .function)
    (h1 : EvO (envX cn cs L a ccd cl).kindOf m lo tk v t) (h2 : EvO (envX cn cs L a ccd cl).kindOf m hi t v' t') (h : Q (.ref hH.objs.size) { s with heap := hH.push { cls := .type "slice", data := .fields #[v, v', .none] }, toks := t' }) :
    wpAny (model prog w) A (eval (.Slice lo hi none pos) (envX cn cs L a ccd cl)) Q E { s with heap := hH, toks := tk } :=
  wpAny_Slice (evo_ok hk X T hl h1 F rfl (evo_ok (s := { s with heap := hH, toks := t }) hk X T hl h2 F rfl (evalPart_none_step h)))
section
variable {l r : Expr} {pos : Pos} {whole : Sem Value} {i j : Int} {u u' : Tok} {t t' : Nat} {Y R : Shared → Prop}
theorem isT_any {hH : Heap} {tk : Nat} {op : CmpOp} {b : Bool} (ho : ∀ {s : Shared} {Q : Value → Shared → Prop}, Q (.bool b) s → wpAny (model prog w) A (compareOp op (.int i u) (.int j u')) Q E s) (F : Fr h₀ L hH m) (X : K.In h₀) (T : TopRead p loose mg mb h₀) (hl : nsIn K mainGlobals ("len" : Str) = some none) (hk : cs.kind = .function)
    (h1 : Ev (envX cn cs L a ccd cl).kindOf m l tk (.int i u) t) (h2 : Ev (envX cn cs L a ccd cl).kindOf m r t (.int j u') t') (hm : behindInMarks op r = false)
    (hp : b = true → Y { s with heap := hH, toks := t' }) (hr : b = false → R { s with heap := hH, toks := t' }) : wpAny (model prog w) A (isTrue (.Compare l [op] [r] pos) (envX cn cs L a ccd cl) whole) (fun c s' => if c = true then Y s' else R s') E { s with heap := hH, toks := tk } := by
  refine wpAny_isTrue_Compare1 (ev_ok hk X T hl h1 F rfl (ev_ok (s := { s with heap := hH, toks := t }) hk X T hl h2 F rfl (ho (wpAny_truthy_bool ?_)))) hm
  cases b
  · exact (if_neg Bool.false_ne_true).symm ▸ hr rfl
  · exact (if_pos rfl).symm ▸ hp rfl
theorem isT_lt {hH : Heap} {tk : Nat} (he : (evE 4 l && evE 4 r) = true) (F : Fr h₀ L hH m) (X : K.In h₀) (T : TopRead p loose mg mb h₀) (hl : nsIn K mainGlobals ("len" : Str) = some none) (hk : cs.kind = .function)
    (h1 : Ev (envX cn cs L a ccd cl).kindOf m l tk (.int i u) t) (h2 : Ev (envX cn cs L a ccd cl).kindOf m r t (.int j u') t') (hm : behindInMarks .Lt r = false)
    (hp : i < j → Y { s with heap := hH, toks := t' }) (hr : ¬ i < j → R { s with heap := hH, toks := t' }) : wpAny (model prog w) A (isTrue (.Compare l [.Lt] [r] pos) (envX cn cs L a ccd cl) whole) (fun c s' => if c = true then Y s' else R s') E { s with heap := hH, toks := tk } :=
  isT_any P.lt_int F X T hl hk h1 h2 hm (fun e => hp (of_decide_eq_true e)) fun e => hr (of_decide_eq_false e)
theorem isT_le {hH : Heap} {tk : Nat} (he : (evE 4 l && evE 4 r) = true) (F : Fr h₀ L hH m) (X : K.In h₀) (T : TopRead p loose mg mb h₀) (hl : nsIn K mainGlobals ("len" : Str) = some none) (hk : cs.kind = .function)
    (h1 : Ev (envX cn cs L a ccd cl).kindOf m l tk (.int i u) t) (h2 : Ev (envX cn cs L a ccd cl).kindOf m r t (.int j u') t') (hm : behindInMarks .LtE r = false)
    (hp : i ≤ j → Y { s with heap := hH, toks := t' }) (hr : ¬ i ≤ j → R { s with heap := hH, toks := t' }) : wpAny (model prog w) A (isTrue (.Compare l [.LtE] [r] pos) (envX cn cs L a ccd cl) whole) (fun c s' => if c = true then Y s' else R s') E { s with heap := hH, toks := tk } :=
  isT_any P.le_int F X T hl hk h1 h2 hm (fun e => hp (of_decide_eq_true e)) fun e => hr (of_decide_eq_false e)
theorem isT_gt {hH : Heap} {tk : Nat} (he : (evE 4 l && evE 4 r) = true) (F : Fr h₀ L hH m) (X : K.In h₀) (T : TopRead p loose mg mb h₀) (hl : nsIn K mainGlobals ("len" : Str) = some none) (hk : cs.kind = .function)
    (h1 : Ev (envX cn cs L a ccd cl).kindOf m l tk (.int i u) t) (h2 : Ev (envX cn cs L a ccd cl).kindOf m r t (.int j u') t') (hm : behindInMarks .Gt r = false)
    (hp : i > j → Y { s with heap := hH, toks := t' }) (hr : ¬ i > j → R { s with heap := hH, toks := t' }) : wpAny (model prog w) A (isTrue (.Compare l [.Gt] [r] pos) (envX cn cs L a ccd cl) whole) (fun c s' => if c = true then Y s' else R s') E { s with heap := hH, toks := tk } :=
  isT_any P.gt_int F X T hl hk h1 h2 hm (fun e => hp (of_decide_eq_true e)) fun e => hr (of_decide_eq_false e)
theorem isT_ge {hH : Heap} {tk : Nat} (he : (evE 4 l && evE 4 r) = true) (F : Fr h₀ L hH m) (X : K.In h₀) (T : TopRead p loose mg mb h₀) (hl : nsIn K mainGlobals ("len" : Str) = some none) (hk : cs.kind = .function)
    (h1 : Ev (envX cn cs L a ccd cl).kindOf m l tk (.int i u) t) (h2 : Ev (envX cn cs L a ccd cl).kindOf m r t (.int j u') t') (hm : behindInMarks .GtE r = false)
    (hp : i ≥ j → Y { s with heap := hH, toks := t' }) (hr : ¬ i ≥ j → R { s with heap := hH, toks := t' }) : wpAny (model prog w) A (isTrue (.Compare l [.GtE] [r] pos) (envX cn cs L a ccd cl) whole) (fun c s' => if c = true then Y s' else R s') E { s with heap := hH, toks := tk } :=
  isT_any P.ge_int F X T hl hk h1 h2 hm (fun e => hp (of_decide_eq_true e)) fun e => hr (of_decide_eq_false e)
theorem isT_eq {hH : Heap} {tk : Nat} (he : (evE 4 l && evE 4 r) = true) (F : Fr h₀ L hH m) (X : K.In h₀) (T : TopRead p loose mg mb h₀) (hl : nsIn K mainGlobals ("len" : Str) = some none) (hk : cs.kind = .function)
    (h1 : Ev (envX cn cs L a ccd cl).kindOf m l tk (.int i u) t) (h2 : Ev (envX cn cs L a ccd cl).kindOf m r t (.int j u') t') (hm : behindInMarks .Eq r = false)
    (hp : (i == j) = true → Y { s with heap := hH, toks := t' }) (hr : (i == j) = false → R { s with heap := hH, toks := t' }) : wpAny (model prog w) A (isTrue (.Compare l [.Eq] [r] pos) (envX cn cs L a ccd cl) whole) (fun c s' => if c = true then Y s' else R s') E { s with heap := hH, toks := tk } :=
  isT_any P.eq_int F X T hl hk h1 h2 hm hp hr
theorem isT_ne {hH : Heap} {tk : Nat} (he : (evE 4 l && evE 4 r) = true) (F : Fr h₀ L hH m) (X : K.In h₀) (T : TopRead p loose mg mb h₀) (hl : nsIn K mainGlobals ("len" : Str) = some none) (hk : cs.kind = .function)
    (h1 : Ev (envX cn cs L a ccd cl).kindOf m l tk (.int i u) t) (h2 : Ev (envX cn cs L a ccd cl).kindOf m r t (.int j u') t') (hm : behindInMarks .NotEq r = false)
    (hp : (i != j) = true → Y { s with heap := hH, toks := t' }) (hr : (i != j) = false → R { s with heap := hH, toks := t' }) : wpAny (model prog w) A (isTrue (.Compare l [.NotEq] [r] pos) (envX cn cs L a ccd cl) whole) (fun c s' => if c = true then Y s' else R s') E { s with heap := hH, toks := tk } :=
  isT_any P.ne_int F X T hl hk h1 h2 hm hp hr
end
theorem nn1 {n : Nat} : (0 : Int) ≤ (n : Int) + 1 := Int.natCast_nonneg (n + 1)
theorem nn2 {n : Nat} : (0 : Int) ≤ (n : Int) + 2 := Int.natCast_nonneg (n + 2)
theorem fall1 {a n : Nat} (h : (a : Int) < n) : n - (a + 1) < n - a := by omega
theorem fall2 {a n : Nat} (h : (a : Int) + 1 < n) : n - (a + 2) < n - a := by omega
theorem fall3 {a n : Nat} (h : (a : Int) + 2 < n) : n - (a + 3) < n - a := by omega
section
variable {x : Str} {t u : Tok} {hH : Heap} {tk : Nat}
theorem len_s {Q : Value → Shared → Prop} (hb : x.length ≤ 1152921504606846976) (h : Q (.int x.length (tk + 1)) { s with heap := hH, toks := tk + 1 + 1 }) : wpAny (model prog w) A (call (.builtin "len") [.str x t]) Q E { s with heap := hH, toks := tk } :=
  P.len_str (by omega) h
theorem item_s {i : Int} {value slice : Expr} {Q : Value → Shared → Prop} (h0 : 0 ≤ i) (h2 : i < x.length) (hb : x.length ≤ 1152921504606846976)
    (hs : subscripted slice false (.str x t) (.int i u) = operate [.str x t, .int i u] (getItem (.str x t) (.int i u))) (ht : ∀ r, letTemporaryGo value (.str x t) r = pure ())
    (h : (1 ≤ (Txt.item x i).length ∧ (Txt.item x i).length ≤ 1) → Q (.str (Txt.item x i) tk) { s with heap := hH, toks := tk + 1 }) : wpAny (model prog w) A (subscriptTail value slice (.str x t) (.int i u)) Q E { s with heap := hH, toks := tk } :=
  item_str (fitsSsize_of (N := 9223372036854775808) (by omega) (by omega) (Int.le_refl _)) (by omega) h2 h hs ht
end
end
end Mine

end
noncomputable section
set_option Elab.async false
namespace Mine
/-- a word in the facts at hand that turns rules of the walk on -/
def Md (_ : Nat) : Prop := True
theorem Md.on (n : Nat) : Md n := trivial
end Mine

end
noncomputable section
open PySem PySem.W PyProof.Rows PySem.Spec PySem.Calls
set_option Elab.async false
set_option maxRecDepth 100000
namespace Mine
section
variable {prog : Program} {w : World} {A : Around} {E : Value → Shared → Prop} {s : Shared} {h₀ : Heap} {L : Addr} {m : Str → Option Value} {env : Env}

/-- a comprehension's turns by an invariant J: the turn's number, what is made so far, the ledger -/
theorem restU {elt : Expr} {x : Str} {scope : Scope} {cl : List (Str × Addr)} {S : Led → Prop} {P : Nat → Value → Prop} {Fin : List Value → Led → Prop} {n : Nat} {news : Led} (J : Nat → List Value → Led → Prop) (h0 : J 0 [] news)
    (turn : ∀ i ys nw v I oI C oC D m₂ h tk (E' : Value → Shared → Prop), i < n → J i ys nw → P i v → LCg.NsObj oC m₂ → m₂ x = some v → Fr h₀ L h m → News h₀ L h ((I, oI) :: (C, oC) :: (D, LCg.lst ys) :: nw) → LCg.Off3 I C D nw → ((@Ne Nat I C) ∧ (@Ne Nat I D) ∧ (@Ne Nat C D)) →
      wpAny (model prog w) A (eval elt (compEnvC scope cl C env)) (LCg.CompEnd h₀ L m { s with heap := h, toks := tk } I oI C oC D (LCg.lst ys) S (fun y nw' => J (i + 1) (ys ++ [y]) nw')) E' { s with heap := h, toks := tk })
    (fin : ∀ ys nw, J n ys nw → Fin ys nw) : LCg.CompRest prog w A h₀ L m env elt x scope cl s S P Fin n 0 [] news := by
  have key : ∀ (j i : Nat) (ys : List Value) (nw : Led), i + j = n → J i ys nw → LCg.CompRest prog w A h₀ L m env elt x scope cl s S P Fin j i ys nw := by
    intro j
    induction j with
    | zero => intro i ys nw hi hJ; exact LCg.CompRest.zero (fin ys nw ((by (first | lia | omega) : i = n) ▸ hJ))
    | succ j ih =>
      intro i ys nw hi hJ
      refine LCg.CompRest.succ fun v I oI C oC D m₂ h tk E' hP hC hx F N off ne => ?_
      refine wpAny_mono (turn i ys nw v I oI C oC D m₂ h tk E' (by (first | lia | omega)) hJ hP hC hx F N off ne) (fun y s₂ q => ?_) fun _ _ e => e
      obtain ⟨h', tk', nw', e, F', N', off', hS, hJ'⟩ := q
      exact ⟨h', tk', nw', e, F', N', off', hS, ih (i + 1) _ nw' (by (first | lia | omega)) hJ'⟩
  exact key n 0 [] news (by (first | lia | omega)) h0

theorem restT {ct elt : Expr} {x : Str} {scope : Scope} {cl : List (Str × Addr)} {S : Led → Prop} {P : Nat → Value → Prop} {Fin : List Value → Led → Prop} {n : Nat} {news : Led} (J : Nat → List Value → Led → Prop) (h0 : J 0 [] news)
    (turn : ∀ i ys nw v I oI C oC D m₂ h tk (E' : Value → Shared → Prop), i < n → J i ys nw → P i v → LCg.NsObj oC m₂ → m₂ x = some v → Fr h₀ L h m → News h₀ L h ((I, oI) :: (C, oC) :: (D, LCg.lst ys) :: nw) → LCg.Off3 I C D nw → ((@Ne Nat I C) ∧ (@Ne Nat I D) ∧ (@Ne Nat C D)) →
      wpAny (model prog w) A (isTrue ct (compEnvC scope cl C env) (eval ct (compEnvC scope cl C env))) (fun ok s' => if ok = true then
        wpAny (model prog w) A (eval elt (compEnvC scope cl C env)) (LCg.CompEnd h₀ L m { s with heap := h, toks := tk } I oI C oC D (LCg.lst ys) S (fun y nw' => J (i + 1) (ys ++ [y]) nw')) E' s'
        else LCg.CompEnd h₀ L m { s with heap := h, toks := tk } I oI C oC D (LCg.lst ys) S (fun _ nw' => J (i + 1) ys nw') Value.none s') E' { s with heap := h, toks := tk })
    (fin : ∀ ys nw, J n ys nw → Fin ys nw) : LCt.CompRestT prog w A h₀ L m env ct elt x scope cl s S P Fin n 0 [] news := by
  have key : ∀ (j i : Nat) (ys : List Value) (nw : Led), i + j = n → J i ys nw → LCt.CompRestT prog w A h₀ L m env ct elt x scope cl s S P Fin j i ys nw := by
    intro j
    induction j with
    | zero => intro i ys nw hi hJ; exact LCt.CompRestT.zero (fin ys nw ((by (first | lia | omega) : i = n) ▸ hJ))
    | succ j ih =>
      intro i ys nw hi hJ
      refine LCt.CompRestT.succ fun v I oI C oC D m₂ h tk E' hP hC hx F N off ne => ?_
      refine wpAny_mono (turn i ys nw v I oI C oC D m₂ h tk E' (by (first | lia | omega)) hJ hP hC hx F N off ne) (fun ok s' q => ?_) fun _ _ e => e
      cases ok with
      | true =>
        simp only [if_true] at q ⊢
        refine wpAny_mono q (fun y s₂ q => ?_) fun _ _ e => e
        obtain ⟨h', tk', nw', e, F', N', off', hS, hJ'⟩ := q
        exact ⟨h', tk', nw', e, F', N', off', hS, ih (i + 1) _ nw' (by (first | lia | omega)) hJ'⟩
      | false =>
        simp only [Bool.false_eq_true, if_false] at q ⊢
        obtain ⟨h', tk', nw', e, F', N', off', hS, hJ'⟩ := q
        exact ⟨h', tk', nw', e, F', N', off', hS, ih (i + 1) _ nw' (by (first | lia | omega)) hJ'⟩
  exact key n 0 [] news (by (first | lia | omega)) h0

/-- iterating a text: the iterator lives at the new address -/
theorem iter_str {X : Str} {t : Tok} {Q : Value → Shared → Prop}
    (hQ : ∀ (o : Obj) (St : Nat → Heap → Prop), (∀ A' : Around, A'.handled = none → Walks prog w A' s.heap.objs.size [s.heap.objs.size] [s.heap.objs.size] X.cps.size (SignAt X) St) → (∀ i h, St i h → ∃ o, h.get? s.heap.objs.size = some o) → St 0 (s.heap.push o) →
      Q (.ref s.heap.objs.size) { s with heap := s.heap.push o }) : wpAny (model prog w) A (pyIter (.str X t)) Q E s := by
  cases ha : X.cps.all (· < 128)
  · exact wpAny_pyIter_wide ha (hQ _ _ (fun A' hA => Walks.strWide hA _ X t) (fun _ _ st => let ⟨o, ho, _⟩ := st; ⟨o, ho⟩) ⟨_, Heap.get?_push_size _ rfl, rfl, rfl⟩)
  · exact wpAny_pyIter_ascii ha (hQ _ _ (fun A' hA => Walks.strAscii hA _ X t) (fun _ _ st => let ⟨o, ho, _⟩ := st; ⟨o, ho⟩) ⟨_, Heap.get?_push_size _ rfl, rfl, rfl⟩)

theorem str_st {I : Addr} {n : Nat} {P : Nat → Value → Prop} {St : Nat → Heap → Prop} (W : Walks prog w A I [I] [I] n P St) : ∀ i (h h' : Heap) (o : Obj) (nw : Led), St i h → h.get? I = some o → h'.get? I = some o → (∀ b o, h₀.get? b = some o → h'.get? b = some o) → News h₀ L h' nw → True → St i h' :=
  fun i h h' o nw st e e' _ _ _ => W.frame i h h' st fun b hb o' q => by
    rw [List.mem_singleton.mp hb] at q ⊢
    rw [e] at q; cases q; exact e'

theorem fin_free {C D : Addr} {h : Heap} {ys : List Value} {nw : Led} {h'' : Heap} (N : News h₀ L h ((D, LCg.lst ys) :: nw)) (hs : Heap.SameBut C h h'') (hCD : C ≠ D) (off : ∀ p ∈ nw, p.1 ≠ C) : News h₀ L h'' ((D, LCg.lst ys) :: nw) := fun p hp => by
  refine ⟨hs.extBut _ _ ?_ (N p hp).1, (N p hp).2⟩
  rcases List.mem_cons.mp hp with rfl | hp
  · exact Ne.symm hCD
  · exact off p hp

/-- a source that is a text, for the turns R -/
def SrcS (h₀ : Heap) (L : Addr) (m : Str → Option Value) (R : Shared → Str → Led → Prop) (xv : Value) (s₁ : Shared) : Prop :=
  ∃ X t news, xv = .str X t ∧ Fr h₀ L s₁.heap m ∧ News h₀ L s₁.heap news ∧ X.cps.size ≤ sizeLine ∧ ∀ g, R { s₁ with heap := g } X news
theorem SrcS.intro {R : Shared → Str → Led → Prop} {X : Str} {t : Tok} {news : Led} {s₁ : Shared} (F : Fr h₀ L s₁.heap m) (N : News h₀ L s₁.heap news) (hsz : X.cps.size ≤ sizeLine) (r : ∀ g, R { s₁ with heap := g } X news) :
    SrcS h₀ L m R (.str X t) s₁ := ⟨X, t, news, rfl, F, N, hsz, r⟩

theorem SrcS.introC {R : Shared → Str → Led → Prop} {X : Str} {t : Tok} {news : Led} {h₁ : Heap} {tk : Nat} (F : Fr h₀ L h₁ m) (N : News h₀ L h₁ news) (hsz : X.cps.size ≤ sizeLine) (r : ∀ g tk', R { s with heap := g, toks := tk' } X news) :
    SrcS h₀ L m R (.str X t) { s with heap := h₁, toks := tk } := ⟨X, t, news, rfl, F, N, hsz, fun g => r g tk⟩

theorem ListComp_strT {ct elt iter : Expr} {x : Str} {px : Pos} {scope : Scope} {cl : List (Str × Addr)} {pos : Pos} {Q : Value → Shared → Prop} (_F₀ : Fr h₀ L s.heap m) (hh : A.handled = none)
    (hclos : closureFor scope env = pure cl) (hcell : ∀ y ∈ scope.names, y.2 ≠ .cell) (hkind : scope.kind = .function)
    (hnames : ∀ y ∈ scope.names, y.2 = .local → scope.names.lookup y.1 = some .local) (hx : scope.names.lookup x = some .local)
    (h : wpAny (model prog w) A (eval iter env) (SrcS h₀ L m fun s₂ X news => LCt.CompRestT prog w A h₀ L m env ct elt x scope cl s₂ (fun _ => True) (SignAt X) (LCg.FinE h₀ L m s₂ Q) X.cps.size 0 [] news) E s)
    (hs : ∀ x, foldedSetIterable iter env x = pure x := by intro _; rfl) :
    wpAny (model prog w) A (eval (.ListComp elt [⟨.Name x px, iter, [ct], 0⟩] scope pos) env) Q E s := by
  rw [eval_ListComp]
  refine wpAny_comprehension_free (use := none) rfl hs hclos hkind hnames (wpAny_mono h (fun xv s₁ h₁ => ?_) fun _ _ e => e)
  obtain ⟨X, t, news, rfl, F, N, hsz, R⟩ := h₁
  refine iter_str fun o St hW live hst => ?_
  refine LCt.block_T (hW A hh) hsz live (str_st (hW A hh)) hcell hkind hx hst (fun b hb => ?_)
    (F.push _) (fun p hp => ⟨Heap.get?_push_of_some _ (N p hp).1, (N p hp).2⟩) (Nat.ne_of_lt F.ns.lt) (next_is_new F) (fun p hp => Nat.ne_of_lt (Heap.lt_size (N p hp).1)) trivial (R _) ?_
  · rw [List.mem_singleton.mp hb]
    show s₁.heap.objs.size < (s₁.heap.push _).objs.size
    rw [Heap.size_push]; exact Nat.lt_succ_self _
  · intro D C h tk m' ys news' F' N' o1 hn hC₀ hD₀ hCL hDL hCD offC fin
    exact ⟨m', hn, fun h'' hs'' => fin D h'' tk (F'.change hs'' hCL hC₀) (fin_free N' hs'' hCD offC) o1⟩

theorem ListComp_strU {elt iter : Expr} {x : Str} {px : Pos} {scope : Scope} {cl : List (Str × Addr)} {pos : Pos} {Q : Value → Shared → Prop} (_F₀ : Fr h₀ L s.heap m) (hh : A.handled = none)
    (hclos : closureFor scope env = pure cl) (hcell : ∀ y ∈ scope.names, y.2 ≠ .cell) (hkind : scope.kind = .function)
    (hnames : ∀ y ∈ scope.names, y.2 = .local → scope.names.lookup y.1 = some .local) (hx : scope.names.lookup x = some .local)
    (h : wpAny (model prog w) A (eval iter env) (SrcS h₀ L m fun s₂ X news => LCg.CompRest prog w A h₀ L m env elt x scope cl s₂ (fun _ => True) (SignAt X) (LCg.FinE h₀ L m s₂ Q) X.cps.size 0 [] news) E s)
    (hs : ∀ x, foldedSetIterable iter env x = pure x := by intro _; rfl) :
    wpAny (model prog w) A (eval (.ListComp elt [⟨.Name x px, iter, [], 0⟩] scope pos) env) Q E s := by
  rw [eval_ListComp]
  refine wpAny_comprehension_free (use := none) rfl hs hclos hkind hnames (wpAny_mono h (fun xv s₁ h₁ => ?_) fun _ _ e => e)
  obtain ⟨X, t, news, rfl, F, N, hsz, R⟩ := h₁
  refine iter_str fun o St hW live hst => ?_
  refine LCg.block_U (hW A hh) hsz live (str_st (hW A hh)) hcell hkind hx hst (fun b hb => ?_)
    (F.push _) (fun p hp => ⟨Heap.get?_push_of_some _ (N p hp).1, (N p hp).2⟩) (Nat.ne_of_lt F.ns.lt) (next_is_new F) (fun p hp => Nat.ne_of_lt (Heap.lt_size (N p hp).1)) trivial (R _) ?_
  · rw [List.mem_singleton.mp hb]
    show s₁.heap.objs.size < (s₁.heap.push _).objs.size
    rw [Heap.size_push]; exact Nat.lt_succ_self _
  · intro D C h tk m' ys news' F' N' o1 hn hC₀ hD₀ hCL hDL hCD offC fin
    exact ⟨m', hn, fun h'' hs'' => fin D h'' tk (F'.change hs'' hCL hC₀) (fin_free N' hs'' hCD offC) o1⟩

theorem Assign_ListComp_strT {ct elt iter : Expr} {x y : Str} {px py : Pos} {scope : Scope} {cl : List (Str × Addr)} {pos spos : Pos} {Q : Flow → Shared → Prop} (_F₀ : Fr h₀ L s.heap m) (hh : A.handled = none) (hLe : env.locals = L)
    (hsw : swapsWith (.ListComp elt [⟨.Name x px, iter, [ct], 0⟩] scope pos) (some (.Name y py)) spos.line env = pure true)
    (hclos : closureFor scope env = pure cl) (hcell : ∀ z ∈ scope.names, z.2 ≠ .cell) (hkind : scope.kind = .function)
    (hnames : ∀ z ∈ scope.names, z.2 = .local → scope.names.lookup z.1 = some .local) (hx : scope.names.lookup x = some .local)
    (hy : env.kindOf y = some .local) (hp : (env.scope.kind == .class || (env.scope.kind == .module && env.locals != env.globals)) = false)
    (h : wpAny (model prog w) A (eval iter env) (SrcS h₀ L m fun s₂ X news => LCt.CompRestT prog w A h₀ L m env ct elt x scope cl s₂ (fun _ => True) (SignAt X) (LCg.FinA h₀ L m s₂ y Q) X.cps.size 0 [] news) E s)
    (hs : ∀ x, foldedSetIterable iter env x = pure x := by intro _; rfl) :
    wpAny (model prog w) A (exec (.Assign [.Name y py] (.ListComp elt [⟨.Name x px, iter, [ct], 0⟩] scope pos) spos) env) Q E s := by
  subst hLe
  rw [exec_Assign_Name_used _ _ _ _ hsw]
  refine wpAny_bind (wpAny_standAt (wpAny_bind ?_))
  show wpAny _ A (do let _ ← comprehension (.ListComp elt [⟨.Name x px, iter, [ct], 0⟩] scope pos) scope env _ (newList []) false (eval iter env) (some (assign (.Name y py) env))) _ _ s
  refine wpAny_bind (wpAny_mono (wpAny_comprehension_free (use := some (assign (.Name y py) env)) (Q := fun _ s' => Q .next s') rfl hs hclos hkind hnames
    (wpAny_mono h (fun xv s₁ h₁ => ?_) fun _ _ e => e)) (fun _ s' hq => wpAny_pure (wpAny_pure hq)) fun _ _ e => e)
  obtain ⟨X, t, news, rfl, F, N, hsz, R⟩ := h₁
  refine iter_str fun o St hW live hst => ?_
  refine LCt.block_T (hW A hh) hsz live (str_st (hW A hh)) hcell hkind hx hst (fun b hb => ?_)
    (F.push _) (fun p hp => ⟨Heap.get?_push_of_some _ (N p hp).1, (N p hp).2⟩) (Nat.ne_of_lt F.ns.lt) (next_is_new F) (fun p hp => Nat.ne_of_lt (Heap.lt_size (N p hp).1)) trivial (R _) ?_
  · rw [List.mem_singleton.mp hb]
    show s₁.heap.objs.size < (s₁.heap.push _).objs.size
    rw [Heap.size_push]; exact Nat.lt_succ_self _
  · intro D C h' tk m' ys news' F' N' o1 hn hC₀ hD₀ hCL hDL hCD offC fin
    show wpAny _ A (assign (.Name y py) env (.ref D)) _ _ _
    refine wpAny_assign_Name (wpAny_storeName_local hy F'.ns (fun h₂ hn₂ hs₂ => ?_) hp)
    have hL₀ : h₀.get? env.locals = none := Heap.get?_none_of_le F'.above
    have F₂ : Fr h₀ env.locals h₂ (fun z => if z = y then some (.ref D) else m z) := ⟨hn₂, fun b o e => hs₂.extBut b o (fun q => by rw [q, hL₀] at e; cases e) (F'.keep b o e), F'.above⟩
    have N₂ : News h₀ env.locals h₂ ((D, LCg.lst ys) :: news') := fun p hp => ⟨hs₂.extBut _ _ (N' p hp).2.1 (N' p hp).1, (N' p hp).2⟩
    exact ⟨m', hn.sameBut hs₂ hCL, fun h'' hs'' => fin D h'' _ (F₂.change hs'' hCL hC₀) (fin_free N₂ hs'' hCD offC) o1⟩
end
end Mine

end
noncomputable section
open PySem PySem.W PyProof.Rows PySem.Spec PySem.Calls
set_option Elab.async false
set_option maxRecDepth 100000
namespace Mine
/-- a marker at which the walk stands still -/
def Stop (P : Prop) : Prop := P
theorem Stop.out {P : Prop} (h : Stop P) : P := h
theorem Stop.go {P : Prop} (h : P) : Stop P := h

/-- a turn of a for that goes on: what holds of the names' values c and of the ledger -/
inductive NextP {σ : Type} (h₀ : Heap) (L : Addr) (x : Str) (ps : σ → List (Str × Value)) (stored : List Str) (m₀ : Str → Option Value) (J : σ → Led → Prop) (own : Led) (s₁ : Shared) : Shared → Prop
  | mk (c : σ) (h' : Heap) (tk : Nat) (m' : Str → Option Value) (news' nx : Led) (F : Fr h₀ L h' m') (N : News h₀ L h' news') (h1 : ∀ p ∈ nx, p ∈ news') (h2 : ∀ p ∈ own, p ∈ news') (ho : OwnOff own (nx.map (·.1)))
    (hp : ∀ p ∈ ps c, m' p.1 = some p.2) (hr : ∀ z, z ≠ x → (∀ p ∈ ps c, z ≠ p.1) → stored.contains z = false → m' z = m₀ z) (hJ : J c nx) : NextP h₀ L x ps stored m₀ J own s₁ { s₁ with heap := h', toks := tk }
/-- a turn of a for -/
def TurnP {σ : Type} (h₀ : Heap) (L : Addr) (x : Str) (ps : σ → List (Str × Value)) (stored : List Str) (m₀ : Str → Option Value) (J : σ → Led → Prop) (own : Led) (s₁ : Shared) (Q : Flow → Shared → Prop) (f : Flow) (s₂ : Shared) : Prop :=
  match f with
  | .ret v => Q (.ret v) s₂
  | .brk => Q .next s₂
  | _ => NextP h₀ L x ps stored m₀ J own s₁ s₂
section
variable {σ : Type} {prog : Program} {w : World} {A : Around} {E : Value → Shared → Prop} {s : Shared} {env : Env} {h₀ : Heap} {L : Addr} {x : Str} {body : List Stmt} {Q : Flow → Shared → Prop} {ps : σ → List (Str × Value)} {stored : List Str} {m₀ : Str → Option Value}
theorem TurnP.ret {J : σ → Led → Prop} {own : Led} {s₁ s₂ : Shared} {v : Value} (h : Q (.ret v) s₂) : TurnP h₀ L x ps stored m₀ J own s₁ Q (.ret v) s₂ := h
theorem TurnP.next {J : σ → Led → Prop} {own news' : Led} {s₁ : Shared} {h' : Heap} {tk : Nat} {m' : Str → Option Value} (c : σ) (nx : Led) (F : Fr h₀ L h' m') (N : News h₀ L h' news') (h1 : ∀ p ∈ nx, p ∈ news') (h2 : ∀ p ∈ own, p ∈ news') (ho : OwnOff own (nx.map (·.1)))
    (hp : ∀ p ∈ ps c, m' p.1 = some p.2) (hr : ∀ z, z ≠ x → (∀ p ∈ ps c, z ≠ p.1) → stored.contains z = false → m' z = m₀ z) (hJ : J c nx) : TurnP h₀ L x ps stored m₀ J own s₁ Q .next { s₁ with heap := h', toks := tk } :=
  .mk c h' tk m' news' nx F N h1 h2 ho hp hr hJ

theorem NextP.out {J : σ → Led → Prop} {own : Led} {s₁ s₂ : Shared} (p : NextP h₀ L x ps stored m₀ J own s₁ s₂) : ∃ h' tk' m' news' nx', s₂ = { s₁ with heap := h', toks := tk' } ∧ Fr h₀ L h' m' ∧ News h₀ L h' news' ∧ (∀ p ∈ nx', p ∈ news') ∧ (∀ p ∈ own, p ∈ news') ∧ OwnOff own (nx'.map (·.1)) ∧ ∃ c, (∀ p ∈ ps c, m' p.1 = some p.2) ∧ (∀ z, z ≠ x → (∀ p ∈ ps c, z ≠ p.1) → stored.contains z = false → m' z = m₀ z) ∧ J c nx' := by
  obtain ⟨c', h', tk', m', news', nx', F', N', a1, a2, a3, a4, a5, a6⟩ := p
  exact ⟨h', tk', m', news', nx', rfl, F', N', a1, a2, a3, c', a4, a5, a6⟩
theorem NextP.outL {J : σ → Led → Prop} {a : Addr × Obj} {own : Led} {s₁ s₂ : Shared} (p : NextP h₀ L x ps stored m₀ (fun c nx => a ∈ nx ∧ J c nx) own s₁ s₂) : ∃ h' tk' m' news' nx', s₂ = { s₁ with heap := h', toks := tk' } ∧ Fr h₀ L h' m' ∧ News h₀ L h' news' ∧ (∀ p ∈ nx', p ∈ news') ∧ (∀ p ∈ own, p ∈ news') ∧ OwnOff own (nx'.map (·.1)) ∧ a ∈ nx' ∧ ∃ c, (∀ p ∈ ps c, m' p.1 = some p.2) ∧ (∀ z, z ≠ x → (∀ p ∈ ps c, z ≠ p.1) → stored.contains z = false → m' z = m₀ z) ∧ J c nx' := by
  obtain ⟨c', h', tk', m', news', nx', F', N', a1, a2, a3, a4, a5, a6⟩ := p
  exact ⟨h', tk', m', news', nx', rfl, F', N', a1, a2, a3, a6.1, c', a4, a5, a6.2⟩
/-- the map of the frame's names in a turn -/
abbrev mapT (x : Str) (stored : List Str) (m₀ u : Str → Option Value) (ps : List (Str × Value)) (v : Option Value) : Str → Option Value := fun y => if y = x then v else kstB (fun z => if stored.contains z then u z else m₀ z) ps y

theorem fr_mapT {h : Heap} {m₁ : Str → Option Value} {l : List (Str × Value)} (h1 : ∀ p ∈ l, m₁ p.1 = some p.2) (h2 : ∀ z, z ≠ x → (∀ p ∈ l, z ≠ p.1) → stored.contains z = false → m₁ z = m₀ z) (F₁ : Fr h₀ L h m₁) : Fr h₀ L h (mapT x stored m₀ m₁ l (m₁ x)) := by
  have e : (fun y => if y = x then m₁ y else kstB (fun z => if stored.contains z then m₁ z else m₀ z) l y) = mapT x stored m₀ m₁ l (m₁ x) := by
    funext y
    by_cases hy : y = x
    · subst hy; rfl
    · exact (if_neg hy).trans (if_neg hy).symm
  exact e ▸ kst_frOut (x := x) h1 h2 F₁
/-- a for over an iterator that is one object of its own -/
theorem for_one {I : Addr} {n : Nat} {P : Nat → Value → Prop} {St : Nat → Heap → Prop} {news : Led} (ps : σ → List (Str × Value)) (stored : List Str) (J : Nat → σ → Led → Prop) (c₀ : σ)
    (W : Walks prog w A I [I] [I] n P St) (live : ∀ i h, St i h → ∃ o, h.get? I = some o) (hLf : env.locals ≠ I) (hwr : h₀.get? I = none) (hnw : ∀ p ∈ news, p.1 ≠ I) (hst : St 0 s.heap)
    (F : Fr h₀ env.locals s.heap m₀) (N : News h₀ env.locals s.heap news) (hk : ∀ p ∈ ps c₀, m₀ p.1 = some p.2) (hj : J 0 c₀ news)
    (turn : ∀ i v c nx (u : Str → Option Value) h tk own, i < n → P i v → J i c nx → OwnOff own (nx.map (·.1)) → Fr h₀ env.locals h (mapT x stored m₀ u (ps c) (some v)) → News h₀ env.locals h (nx ++ own) →
      wpAny (model prog w) A (execs body env) (TurnP h₀ env.locals x ps stored m₀ (J (i + 1)) own { s with heap := h, toks := tk } Q) E { s with heap := h, toks := tk })
    (done : ∀ c nx (u : Str → Option Value) h tk, J n c nx → Fr h₀ env.locals h (mapT x stored m₀ u (ps c) (u x)) → News h₀ env.locals h nx → Q .next { s with heap := h, toks := tk }) :
    LoopAtV prog w A h₀ env x body Q E (.ref I) s := by
  refine kdr_loop (fun i m nx => ∃ c, (∀ p ∈ ps c, m p.1 = some p.2) ∧ (∀ z, z ≠ x → (∀ p ∈ ps c, z ≠ p.1) → stored.contains z = false → m z = m₀ z) ∧ J i c nx) W (fun _ h => h) (fun _ h => h)
    (fun i h st b hb => by rw [List.mem_singleton.mp hb]; exact live i h st) (fun h => hLf (List.mem_singleton.mp h)) (fun b hb => by rw [List.mem_singleton.mp hb]; exact hwr)
    (fun p hp hI => hnw p hp (List.mem_singleton.mp hI)) hst F N ⟨c₀, hk, fun _ _ _ _ => rfl, hj⟩ ?_ ?_
  · rintro i v m₁ nx h tk own hi hP hoff ⟨c, h1, h2, hJ⟩ F₁ N₁
    refine wpAny_mono (turn i v c nx m₁ h tk own hi hP hJ hoff (kst_fr h1 h2 F₁) N₁) (fun f s₂ p => ?_) fun _ _ e => e
    cases f with
    | ret v => exact p
    | brk => exact p
    | next => exact NextP.out p
    | cont => exact NextP.out p
  · rintro m₁ nx h tk ⟨c, h1, h2, hJ⟩ F₁ N₁
    exact done c nx m₁ h tk hJ (fr_mapT h1 h2 F₁) N₁

/-- a for over a text -/
theorem for_str {X : Str} {t : Tok} {news : Led} (ps : σ → List (Str × Value)) (stored : List Str) (J : Nat → σ → Led → Prop) (c₀ : σ) (hh : A.handled = none)
    (F : Fr h₀ env.locals s.heap m₀) (N : News h₀ env.locals s.heap news) (hk : ∀ p ∈ ps c₀, m₀ p.1 = some p.2) (hj : J 0 c₀ news)
    (turn : ∀ i v c nx (u : Str → Option Value) h tk own, i < X.cps.size → SignAt X i v → J i c nx → OwnOff own (nx.map (·.1)) → Fr h₀ env.locals h (mapT x stored m₀ u (ps c) (some v)) → News h₀ env.locals h (nx ++ own) →
      wpAny (model prog w) A (execs body env) (TurnP h₀ env.locals x ps stored m₀ (J (i + 1)) own { s with heap := h, toks := tk } Q) E { s with heap := h, toks := tk })
    (done : ∀ c nx (u : Str → Option Value) h tk, J X.cps.size c nx → Fr h₀ env.locals h (mapT x stored m₀ u (ps c) (u x)) → News h₀ env.locals h nx → Q .next { s with heap := h, toks := tk }) :
    wpAny (model prog w) A (pyIter (.str X t)) (fun it s₂ => LoopAtV prog w A h₀ env x body Q E it s₂) E s := by
  refine iter_str fun o St hW live hst => ?_
  exact for_one (s := { s with heap := s.heap.push o }) ps stored J c₀ (hW A hh) live (Nat.ne_of_lt F.ns.lt) (next_is_new F) (fun p hp => Nat.ne_of_lt (Heap.lt_size (N p hp).1)) hst (F.push _) (fun p hp => ⟨Heap.get?_push_of_some _ (N p hp).1, (N p hp).2⟩) hk hj turn done

/-- a for over a range by ones -/
theorem for_range {r : Addr} {a b : Int} {t₀ u₀ v₀ : Tok} {n : Nat} {news : Led} (ps : σ → List (Str × Value)) (stored : List Str) (J : Nat → σ → Led → Prop) (c₀ : σ) (hh : A.handled = none)
    (hr : IsRange s.heap r a b 1 t₀ u₀ v₀) (hsm : Builtin.Range.small a b 1 = true) (hn : Builtin.Range.rangeSize a b 1 = (n : Int))
    (F : Fr h₀ env.locals s.heap m₀) (N : News h₀ env.locals s.heap news) (hk : ∀ p ∈ ps c₀, m₀ p.1 = some p.2) (hj : J 0 c₀ news)
    (turn : ∀ i v c nx (u : Str → Option Value) h tk own, i < n → (∃ t, v = .int (a + (i : Int)) t) → J i c nx → OwnOff own (nx.map (·.1)) → Fr h₀ env.locals h (mapT x stored m₀ u (ps c) (some v)) → News h₀ env.locals h (nx ++ own) →
      wpAny (model prog w) A (execs body env) (TurnP h₀ env.locals x ps stored m₀ (J (i + 1)) own { s with heap := h, toks := tk } Q) E { s with heap := h, toks := tk })
    (done : ∀ c nx (u : Str → Option Value) h tk, J n c nx → Fr h₀ env.locals h (mapT x stored m₀ u (ps c) (u x)) → News h₀ env.locals h nx → Q .next { s with heap := h, toks := tk }) :
    wpAny (model prog w) A (pyIter (.ref r)) (fun it s₂ => LoopAtV prog w A h₀ env x body Q E it s₂) E s := by
  refine wpAny_pyIter_range hr hsm ?_
  exact for_one (s := { s with heap := s.heap.push _ }) ps stored J c₀ (LCg.range_walks hh a n) (fun i h st => ⟨_, st⟩) (Nat.ne_of_lt F.ns.lt) (next_is_new F) (fun p hp => Nat.ne_of_lt (Heap.lt_size (N p hp).1))
    (by show IsRangeIter _ _ _ _ _; rw [hn]; simpa using Heap.get?_push_size _ rfl) (F.push _) (fun p hp => ⟨Heap.get?_push_of_some _ (N p hp).1, (N p hp).2⟩) hk hj turn done

/-- a for over a list of the ledger -/
theorem for_list {l : Addr} {vs : List Value} {nn : Nat} {news : Led} (ps : σ → List (Str × Value)) (stored : List Str) (J : Nat → σ → Led → Prop) (c₀ : σ) (hh : A.handled = none)
    (hl : (l, listOf vs.toArray nn) ∈ news)
    (F : Fr h₀ env.locals s.heap m₀) (N : News h₀ env.locals s.heap news) (hk : ∀ p ∈ ps c₀, m₀ p.1 = some p.2) (hj : J 0 c₀ news)
    (turn : ∀ i v c nx (u : Str → Option Value) h tk own, vs[i]? = some v → (l, listOf vs.toArray nn) ∈ nx → J i c nx → OwnOff own (nx.map (·.1)) → Fr h₀ env.locals h (mapT x stored m₀ u (ps c) (some v)) → News h₀ env.locals h (nx ++ own) →
      wpAny (model prog w) A (execs body env) (TurnP h₀ env.locals x ps stored m₀ (fun c nx => (l, listOf vs.toArray nn) ∈ nx ∧ J (i + 1) c nx) own { s with heap := h, toks := tk } Q) E { s with heap := h, toks := tk })
    (done : ∀ c nx (u : Str → Option Value) h tk, J vs.length c nx → Fr h₀ env.locals h (mapT x stored m₀ u (ps c) (u x)) → News h₀ env.locals h nx → Q .next { s with heap := h, toks := tk }) :
    wpAny (model prog w) A (pyIter (.ref l)) (fun it s₂ => LoopAtV prog w A h₀ env x body Q E it s₂) E s := by
  refine kdl_iter (fun i m nx => ∃ c, (∀ p ∈ ps c, m p.1 = some p.2) ∧ (∀ z, z ≠ x → (∀ p ∈ ps c, z ≠ p.1) → stored.contains z = false → m z = m₀ z) ∧ J i c nx) hh hl F N ⟨c₀, hk, fun _ _ _ _ => rfl, hj⟩ ?_ ?_
  · rintro i v m₁ nx h tk own hv hoff hln ⟨c, h1, h2, hJ⟩ F₁ N₁
    refine wpAny_mono (turn i v c nx m₁ h tk own hv hln hJ hoff (kst_fr h1 h2 F₁) N₁) (fun f s₂ p => ?_) fun _ _ e => e
    cases f with
    | ret v => exact p
    | brk => exact p
    | next => exact NextP.outL p
    | cont => exact NextP.outL p
  · rintro m₁ nx h tk ⟨c, h1, h2, hJ⟩ F₁ N₁
    exact done c nx m₁ h tk hJ (fr_mapT h1 h2 F₁) N₁
end
end Mine
namespace Mine
section
variable {M : Model} {A : Around} {E : Value → Shared → Prop} {s : Shared} {env : Env}
theorem stop_for {Q : Flow → Shared → Prop} {tg it : Expr} {b o : List Stmt} {p : Pos} (h : Stop (wpAny M A (exec (.For tg it b o p) env) Q E s)) : wpAny M A (exec (.For tg it b o p) env) Q E s := h
theorem stop_while {Q : Flow → Shared → Prop} {it : Expr} {b o : List Stmt} {p : Pos} (h : Stop (wpAny M A (exec (.While it b o p) env) Q E s)) : wpAny M A (exec (.While it b o p) env) Q E s := h
theorem stop_comp {Q : Value → Shared → Prop} {e : Expr} {g : List Comprehension} {sc : Scope} {p : Pos} (h : Stop (wpAny M A (eval (.ListComp e g sc p) env) Q E s)) : wpAny M A (eval (.ListComp e g sc p) env) Q E s := h
theorem stop_asg {Q : Flow → Shared → Prop} {ts : List Expr} {e : Expr} {g : List Comprehension} {sc : Scope} {p p' : Pos} (h : Stop (wpAny M A (exec (.Assign ts (.ListComp e g sc p) p') env) Q E s)) : wpAny M A (exec (.Assign ts (.ListComp e g sc p) p') env) Q E s := h
theorem stop_iter {Q : Value → Shared → Prop} {v : Value} (h : Stop (wpAny M A (pyIter v) Q E s)) : wpAny M A (pyIter v) Q E s := h
end
end Mine
namespace Mine
theorem stop_ksw {σ : Type} {h₀ : Heap} {L : Addr} {s : Shared} {Ld : σ → Led} {ps : σ → List (Str × Value)} {Facts : σ → Prop} {stored : List Str} {m₀ : Str → Option Value} {P : σ → Prop} {μ : σ → Nat} {Q : Flow → Shared → Prop} {c : σ} {s₂ : Shared}
   (h : Stop (KswPost h₀ L s Ld ps Facts stored m₀ P μ Q c .next s₂)) : KswPost h₀ L s Ld ps Facts stored m₀ P μ Q c .next s₂ := h
/-- one sign -/
abbrev ch (c : Nat) : Str := ⟨#[c]⟩
def rangeL (a b : Nat) : List Nat := (List.range (b + 1 - a)).map (a + ·)
/-- what a told set of signs means, sign by sign: a backslash ahead of a sign, a range, a plain sign -/
inductive Spr : List Nat → List Nat → Prop
  | nil : Spr [] []
  | esc (c : Nat) {r m : List Nat} : Spr r m → Spr (92 :: c :: r) (c :: m)
  | rng (a b : Nat) {r m : List Nat} : a ≠ 92 → a ≤ b → b ≤ a + 20000 → Spr r m → Spr (a :: 45 :: b :: r) (rangeL a b ++ m)
  | one (a : Nat) {r m : List Nat} : (a = 92 → r = []) → (∀ b r', r ≠ 45 :: b :: r') → Spr r m → Spr (a :: r) (a :: m)
/-- signs as values -/
def Chs (vs : List Value) (cs : List Nat) : Prop := StrsAre vs (cs.map ch)
end Mine
namespace Mine
theorem if_skip {z a : Str} {v b c : Option Value} (h : z ≠ a) (e : b = c) : (if z = a then v else b) = c := by rw [if_neg h]; exact e
theorem ne_stored {z a : Str} {stored : List Str} (h : stored.contains z = false) (ha : stored.contains a = true) : z ≠ a := fun e => by rw [e, ha] at h; cases h
theorem kst_keep {z : Str} {stored : List Str} {ps : List (Str × Value)} {u m₀ : Str → Option Value} (h2 : ∀ p ∈ ps, z ≠ p.1) (h3 : stored.contains z = false) : kstB (fun z => if stored.contains z then u z else m₀ z) ps z = m₀ z := by
  induction ps with
  | nil => show (if stored.contains z = true then u z else m₀ z) = m₀ z; rw [h3]; rfl
  | cons p r ih => exact if_skip (h2 p (.head _)) (ih fun q hq => h2 q (.tail _ hq))
theorem kst_keep' {z : Str} {stored : List Str} {ps ps' : List (Str × Value)} {u m₀ : Str → Option Value} (h2 : ∀ p ∈ ps', z ≠ p.1) (h3 : stored.contains z = false) (e : ps.map (·.1) = ps'.map (·.1)) : kstB (fun z => if stored.contains z then u z else m₀ z) ps z = m₀ z := by
  refine kst_keep (fun p hp => ?_) h3
  have : p.1 ∈ ps'.map (·.1) := e ▸ List.mem_map_of_mem hp
  obtain ⟨q, hq, e'⟩ := List.mem_map.mp this
  rw [← e']; exact h2 q hq
end Mine
namespace Mine
section
variable {prog : Program} {w : World} {A : Around} {h₀ : Heap} {L : Addr} {m : Str → Option Value} {env : Env}
theorem stop_src {elt : Expr} {x : Str} {scope : Scope} {cl : List (Str × Addr)} {Fin : Shared → List Value → List (Addr × Obj) → Prop} {xv : Value} {s₁ : Shared} (h : Stop (LCg.CompSrc prog w A h₀ L m env elt x scope cl Fin xv s₁)) : LCg.CompSrc prog w A h₀ L m env elt x scope cl Fin xv s₁ := h
theorem stop_srcT {ct elt : Expr} {x : Str} {scope : Scope} {cl : List (Str × Addr)} {Fin : Shared → List Value → List (Addr × Obj) → Prop} {xv : Value} {s₁ : Shared} (h : Stop (LCt.CompSrcT prog w A h₀ L m env ct elt x scope cl Fin xv s₁)) : LCt.CompSrcT prog w A h₀ L m env ct elt x scope cl Fin xv s₁ := h
theorem stop_srcS {R : Shared → Str → Led → Prop} {xv : Value} {s₁ : Shared} (h : Stop (SrcS h₀ L m R xv s₁)) : SrcS h₀ L m R xv s₁ := h
theorem stop_end {s₁ : Shared} {I : Addr} {oI : Obj} {C : Addr} {oC : Obj} {D : Addr} {oD : Obj} {S : List (Addr × Obj) → Prop} {rest : Value → List (Addr × Obj) → Prop} {y : Value} {s₂ : Shared} (h : Stop (LCg.CompEnd h₀ L m s₁ I oI C oC D oD S rest y s₂)) : LCg.CompEnd h₀ L m s₁ I oI C oC D oD S rest y s₂ := h
theorem stop_turn {σ : Type} {x : Str} {ps : σ → List (Str × Value)} {stored : List Str} {m₀ : Str → Option Value} {J : σ → Led → Prop} {own : Led} {s₁ : Shared} {Q : Flow → Shared → Prop} {s₂ : Shared} (h : Stop (TurnP h₀ L x ps stored m₀ J own s₁ Q .next s₂)) : TurnP h₀ L x ps stored m₀ J own s₁ Q .next s₂ := h
theorem stop_turnC {σ : Type} {x : Str} {ps : σ → List (Str × Value)} {stored : List Str} {m₀ : Str → Option Value} {J : σ → Led → Prop} {own : Led} {s₁ : Shared} {Q : Flow → Shared → Prop} {s₂ : Shared} (h : Stop (TurnP h₀ L x ps stored m₀ J own s₁ Q .next s₂)) : TurnP h₀ L x ps stored m₀ J own s₁ Q .cont s₂ := h
end
theorem range_ok {a b : Int} (ha : -(2 ^ 40) ≤ a) (ha' : a < 2 ^ 40) (hb : -(2 ^ 40) ≤ b) (hb' : b < 2 ^ 40) : Builtin.Range.small a b 1 = true := small_one (by (first | lia | omega)) (by (first | lia | omega)) (by (first | lia | omega)) (by (first | lia | omega))
end Mine
namespace Mine
section
variable {prog : Program} {w : World} {A : Around} {E : Value → Shared → Prop} {s : Shared} {h₀ : Heap} {L : Addr} {m : Str → Option Value} {env : Env}
theorem restU_fix {elt : Expr} {x : Str} {scope : Scope} {cl : List (Str × Addr)} {S : Led → Prop} {P : Nat → Value → Prop} {Fin : List Value → Led → Prop} {n : Nat} {news : Led} (J : Nat → List Value → Prop) (h0 : J 0 [])
    (turn : ∀ i ys v I oI C oC D m₂ h tk (E' : Value → Shared → Prop), i < n → J i ys → P i v → LCg.NsObj oC m₂ → m₂ x = some v → Fr h₀ L h m → News h₀ L h ((I, oI) :: (C, oC) :: (D, LCg.lst ys) :: news) → LCg.Off3 I C D news → ((@Ne Nat I C) ∧ (@Ne Nat I D) ∧ (@Ne Nat C D)) →
      wpAny (model prog w) A (eval elt (compEnvC scope cl C env)) (LCg.CompEnd h₀ L m { s with heap := h, toks := tk } I oI C oC D (LCg.lst ys) S (fun y nw' => nw' = news ∧ J (i + 1) (ys ++ [y]))) E' { s with heap := h, toks := tk })
    (fin : ∀ ys, J n ys → Fin ys news) : LCg.CompRest prog w A h₀ L m env elt x scope cl s S P Fin n 0 [] news :=
  restU (fun i ys nw => nw = news ∧ J i ys) ⟨rfl, h0⟩ (fun i ys nw v I oI C oC D m₂ h tk E' hi hJ hP hC hx F N off ne => by
    obtain ⟨rfl, hJ⟩ := hJ
    exact turn i ys v I oI C oC D m₂ h tk E' hi hJ hP hC hx F N off ne) fun ys nw ⟨e, h⟩ => e ▸ fin ys h
theorem restT_fix {ct elt : Expr} {x : Str} {scope : Scope} {cl : List (Str × Addr)} {S : Led → Prop} {P : Nat → Value → Prop} {Fin : List Value → Led → Prop} {n : Nat} {news : Led} (J : Nat → List Value → Prop) (h0 : J 0 [])
    (turn : ∀ i ys v I oI C oC D m₂ h tk (E' : Value → Shared → Prop), i < n → J i ys → P i v → LCg.NsObj oC m₂ → m₂ x = some v → Fr h₀ L h m → News h₀ L h ((I, oI) :: (C, oC) :: (D, LCg.lst ys) :: news) → LCg.Off3 I C D news → ((@Ne Nat I C) ∧ (@Ne Nat I D) ∧ (@Ne Nat C D)) →
      wpAny (model prog w) A (isTrue ct (compEnvC scope cl C env) (eval ct (compEnvC scope cl C env))) (fun ok s' => if ok = true then
        wpAny (model prog w) A (eval elt (compEnvC scope cl C env)) (LCg.CompEnd h₀ L m { s with heap := h, toks := tk } I oI C oC D (LCg.lst ys) S (fun y nw' => nw' = news ∧ J (i + 1) (ys ++ [y]))) E' s'
        else LCg.CompEnd h₀ L m { s with heap := h, toks := tk } I oI C oC D (LCg.lst ys) S (fun _ nw' => nw' = news ∧ J (i + 1) ys) Value.none s') E' { s with heap := h, toks := tk })
    (fin : ∀ ys, J n ys → Fin ys news) : LCt.CompRestT prog w A h₀ L m env ct elt x scope cl s S P Fin n 0 [] news :=
  restT (fun i ys nw => nw = news ∧ J i ys) ⟨rfl, h0⟩ (fun i ys nw v I oI C oC D m₂ h tk E' hi hJ hP hC hx F N off ne => by
    obtain ⟨rfl, hJ⟩ := hJ
    exact turn i ys v I oI C oC D m₂ h tk E' hi hJ hP hC hx F N off ne) fun ys nw ⟨e, h⟩ => e ▸ fin ys h
/-- the way out of a comprehension's element -/
def CyQ (h₀ : Heap) (L : Addr) (m : Str → Option Value) (nl : Led) (J : Value → Prop) (s : Shared) (Qy : Value → Shared → Prop) : Prop :=
  ∀ y h' tk', Fr h₀ L h' m → News h₀ L h' nl → J y → Qy y { s with heap := h', toks := tk' }
theorem CyQ.out {nl : Led} {J : Value → Prop} {Qy : Value → Shared → Prop} {y : Value} {h' : Heap} {tk' : Nat} (q : CyQ h₀ L m nl J s Qy) (F : Fr h₀ L h' m) (N : News h₀ L h' nl) (k : Stop (J y)) : Qy y { s with heap := h', toks := tk' } := q y h' tk' F N k
/-- the way out of a comprehension's test -/
def CtQ (M : Model) (A : Around) (elt : Expr) (ce : Env) (E : Value → Shared → Prop) (h₀ : Heap) (L : Addr) (m : Str → Option Value) (nl : Led) (J : Prop) (s : Shared) (Qy : Value → Shared → Prop) (Qb : Bool → Shared → Prop) : Prop :=
  ∀ b h' tk', (if b = true then wpAny M A (eval elt ce) Qy E { s with heap := h', toks := tk' } else Fr h₀ L h' m ∧ News h₀ L h' nl ∧ J) → Qb b { s with heap := h', toks := tk' }
theorem CtQ.yes {M : Model} {elt : Expr} {ce : Env} {nl : Led} {J : Prop} {Qy : Value → Shared → Prop} {Qb : Bool → Shared → Prop} {h' : Heap} {tk' : Nat} (q : CtQ M A elt ce E h₀ L m nl J s Qy Qb) (k : wpAny M A (eval elt ce) Qy E { s with heap := h', toks := tk' }) : Qb true { s with heap := h', toks := tk' } :=
  q true h' tk' (by rw [if_pos rfl]; exact k)
theorem CtQ.no {M : Model} {elt : Expr} {ce : Env} {nl : Led} {J : Prop} {Qy : Value → Shared → Prop} {Qb : Bool → Shared → Prop} {h' : Heap} {tk' : Nat} (q : CtQ M A elt ce E h₀ L m nl J s Qy Qb) (F : Fr h₀ L h' m) (N : News h₀ L h' nl) (k : Stop J) : Qb false { s with heap := h', toks := tk' } :=
  q false h' tk' (by rw [if_neg Bool.false_ne_true]; exact ⟨F, N, k⟩)
theorem CtQ.both {M : Model} {elt : Expr} {ce : Env} {nl : Led} {J : Prop} {Qy : Value → Shared → Prop} {Qb : Bool → Shared → Prop} {b : Bool} {h' : Heap} {tk' : Nat} (q : CtQ M A elt ce E h₀ L m nl J s Qy Qb) (F : Fr h₀ L h' m) (N : News h₀ L h' nl)
    (k : b = true → wpAny M A (eval elt ce) Qy E { s with heap := h', toks := tk' }) (k' : b = false → Stop J) : Qb b { s with heap := h', toks := tk' } := by
  cases b with
  | true => exact q.yes (k rfl)
  | false => exact q.no F N (k' rfl)
/-- a comprehension whose turns leave the ledger as it is -/
theorem restU_q {elt : Expr} {x : Str} {scope : Scope} {cl : List (Str × Addr)} {S : Led → Prop} {P : Nat → Value → Prop} {Fin : List Value → Led → Prop} {n : Nat} {news : Led} {g₀ : Heap} {t₀ : Nat} (J : Nat → List Value → Prop) (h0 : J 0 []) (hS : S news)
    (turn : ∀ i ys v I oI C oC D m₂ h tk (Qy E' : Value → Shared → Prop), i < n → J i ys → P i v → LCg.NsObj oC m₂ → m₂ x = some v → Fr h₀ L h m → let nl := (I, oI) :: (C, oC) :: (D, LCg.lst ys) :: news; News h₀ L h nl → LCg.Off3 I C D news → ((@Ne Nat I C) ∧ (@Ne Nat I D) ∧ (@Ne Nat C D)) →
      CyQ h₀ L m nl (fun y => J (i + 1) (ys ++ [y])) s Qy → let ce := compEnvC scope cl C env; wpAny (model prog w) A (eval elt ce) Qy E' { s with heap := h, toks := tk })
    (fin : ∀ ys, J n ys → Fin ys news) : LCg.CompRest prog w A h₀ L m env elt x scope cl { s with heap := g₀, toks := t₀ } S P Fin n 0 [] news :=
  restU_fix J h0 (fun i ys v I oI C oC D m₂ h tk E' hi hJ hP hC hx F N off ne => turn i ys v I oI C oC D m₂ h tk (LCg.CompEnd h₀ L m { s with heap := h, toks := tk } I oI C oC D (LCg.lst ys) S (fun y nw' => nw' = news ∧ J (i + 1) (ys ++ [y]))) E' hi hJ hP hC hx F N off ne fun _ _ _ F' N' hJ' => LCg.CompEnd.intro (s₁ := { s with heap := h, toks := tk }) F' N' _ (fun _ hp => hp) off hS ⟨rfl, hJ'⟩) fin
theorem restT_q {ct elt : Expr} {x : Str} {scope : Scope} {cl : List (Str × Addr)} {S : Led → Prop} {P : Nat → Value → Prop} {Fin : List Value → Led → Prop} {n : Nat} {news : Led} {g₀ : Heap} {t₀ : Nat} (J : Nat → List Value → Prop) (h0 : J 0 []) (hS : S news)
    (turn : ∀ i ys v I oI C oC D m₂ h tk (Qb : Bool → Shared → Prop) (Qy E' : Value → Shared → Prop), i < n → J i ys → P i v → LCg.NsObj oC m₂ → m₂ x = some v → Fr h₀ L h m → let nl := (I, oI) :: (C, oC) :: (D, LCg.lst ys) :: news; News h₀ L h nl → LCg.Off3 I C D news → ((@Ne Nat I C) ∧ (@Ne Nat I D) ∧ (@Ne Nat C D)) →
      CyQ h₀ L m nl (fun y => J (i + 1) (ys ++ [y])) s Qy → let ce := compEnvC scope cl C env; CtQ (model prog w) A elt ce E' h₀ L m nl (J (i + 1) ys) s Qy Qb →
      wpAny (model prog w) A (isTrue ct ce (eval ct ce)) Qb E' { s with heap := h, toks := tk })
    (fin : ∀ ys, J n ys → Fin ys news) : LCt.CompRestT prog w A h₀ L m env ct elt x scope cl { s with heap := g₀, toks := t₀ } S P Fin n 0 [] news :=
  restT_fix J h0 (fun i ys v I oI C oC D m₂ h tk E' hi hJ hP hC hx F N off ne => turn i ys v I oI C oC D m₂ h tk (fun ok s' => if ok = true then wpAny (model prog w) A (eval elt (compEnvC scope cl C env)) (LCg.CompEnd h₀ L m { s with heap := h, toks := tk } I oI C oC D (LCg.lst ys) S (fun y nw' => nw' = news ∧ J (i + 1) (ys ++ [y]))) E' s' else LCg.CompEnd h₀ L m { s with heap := h, toks := tk } I oI C oC D (LCg.lst ys) S (fun _ nw' => nw' = news ∧ J (i + 1) ys) Value.none s') (LCg.CompEnd h₀ L m { s with heap := h, toks := tk } I oI C oC D (LCg.lst ys) S (fun y nw' => nw' = news ∧ J (i + 1) (ys ++ [y]))) E' hi hJ hP hC hx F N off ne
    (fun _ _ _ F' N' hJ' => LCg.CompEnd.intro (s₁ := { s with heap := h, toks := tk }) F' N' _ (fun _ hp => hp) off hS ⟨rfl, hJ'⟩) fun b h' tk' k => by
      cases b with
      | true => rw [if_pos rfl] at k ⊢; exact k
      | false => rw [if_neg Bool.false_ne_true] at k ⊢; exact LCg.CompEnd.intro (s₁ := { s with heap := h, toks := tk }) k.1 k.2.1 _ (fun _ hp => hp) off hS ⟨rfl, k.2.2⟩) fin
end
end Mine

end
noncomputable section
open PySem PySem.W PyProof.Rows PySem.Spec PySem.Calls
set_option Elab.async false
set_option maxRecDepth 100000
namespace Mine
section
variable {prog : Program} {w : World} {A₀ A : Around} {s : Shared} {base h₀ : Heap} {outer : List Env} {L : Addr} {m : Str → Option Value} {news : Led} {K : Frag} {p : Program} {loose : List Str} {mean : ExcName → Option Value} {mg mb : Str → Option Value}
/-- a def with cells is entered, and the tokens have not gone back -/
theorem code_defT {env : Env} {R : Result → Shared → Prop} {name qual : Str} {params : Arguments} {body : List Stmt} {scope : Scope} {dV kV doc pm cdv ct oc : Value} {an od : Option Addr} {osl : Array (Option Value)} {f : Addr} {args : Args} {binds : List (Str × Value)}
    (B : Below A₀ base outer h₀) (F : Fr h₀ L s.heap m) (X₀ : K.In h₀) (N : News h₀ L s.heap news) (T : Top p loose mean mg mb h₀) (hA : A.frames = some (env :: outer)) (hf : env.frame = some L) (hke : env.scope.kind = .function)
    (ho : K.lookup f = some ⟨oc, od, .func (fnOf name qual params body scope dV kV doc pm an cdv ct), osl⟩) (hcd : codeIn K cdv qual = true) (hroom : A.depth < recursionLimit)
    (hbind : BindsTo s (fnOf name qual params body scope dV kV doc pm an cdv ct) args binds) (hkind : (binds.all fun y => scope.names.lookup y.1 == some .local || scope.names.lookup y.1 == some .cell) = true)
    (hnd : ((cellsFrom 0 scope.names []).map (·.1)).Nodup)
    (h : ∀ g L' h₁ tk cells, s.toks ≤ tk → Fr h₀ L g m → Fr g L' h₁ (bindL (envOfC qual scope L' f cdv).kindOf binds fun _ => none) → News g L' h₁ (cells ++ news) →
      CellsAre (bindC (envOfC qual scope L' f cdv).kindOf binds fun _ => none) (cellsFrom (L' + 1) scope.names []) cells → Below A base (env :: outer) g → K.In g → Top p loose mean mg mb g → (∀ p ∈ news, p.1 < L') →
      wpAny (model prog w) (A.deeper (envOfC qual scope L' f cdv)) (execs body (envOfC qual scope L' f cdv))
        (fun fl s' => LeaveK h₀ L m g R (match fl with | .ret v => v | _ => .none) s')
        (fun e s' => wpAny (model prog w) (A.deeper (envOfC qual scope L' f cdv)) (leaving (envOfC qual scope L' f cdv) e) (fun _ s'' => R (.error e) s'') (fun e' s'' => R (.error e') s'') s')
        { s with heap := h₁, toks := tk })
    (hco : scope.isCoroutine = false) (hgen : scope.isGenerator = false) (hk : scope.kind = .function) : codeAny (model prog w) A (.call (.ref f) args) R s := by
  have XK := X₀.keeps F.keep
  obtain ⟨FG, BG, st, lv⟩ := groundX (R := R) B F N hA hf hke
  refine codeAny_call_function hroom (XK _ _ ho) rfl hco hgen rfl (codeRec_of XK hcd) (hbind _ _ _ _ (wpAny_with_toks (Nat.le_refl _) (wpAny_newFunctionEnv_cells hk (kindsX hkind _) fun env' he s' x hle => ?_)))
  subst he
  refine ⟨(T.nolimit.keeps F.keep).keeps x.toInCall.keep, codeAny_func ?_⟩
  obtain ⟨h₁, tk, rfl, _⟩ := x.done
  have up := x.toInCall.keep
  obtain ⟨cells, NC, Y⟩ := Cl.news (h₀ := s.heap) (Nat.le_refl _) fun n c hm => ⟨x.cell n c (lookup_of_mem_nodup (cellsFrom_names scope.names 0 (s.heap.objs.size + 1) [] [] rfl ▸ hnd) hm), x.above n c hm⟩
  have hidden : ∀ a : Addr, s.heap.get? a = none → (hideAll s.heap (news.map (·.1))).get? a = none := fun a ha => by
    cases q : (hideAll s.heap (news.map (·.1))).get? a with
    | none => rfl
    | some o => have := of_hideAll _ q; rw [ha] at this; cases this
  have N1 : News (hideAll s.heap (news.map (·.1))) s.heap.objs.size h₁ (cells ++ news) := fun p hp => by
    rcases List.mem_append.mp hp with hp | hp
    · exact ⟨(NC p hp).1, (NC p hp).2.1, hidden _ (NC p hp).2.2⟩
    · exact ⟨up _ _ (N p hp).1, Nat.ne_of_lt (Heap.lt_size (N p hp).1), hideAll_none _ (List.mem_map_of_mem hp)⟩
  exact wpAny_mono (h _ s.heap.objs.size h₁ tk cells hle FG ⟨x.toInCall.ns, fun b o e => up b o (of_hideAll _ e), Nat.le_of_eq (hideAll_size _ _)⟩ N1 Y BG (X₀.keeps st) (T.keeps st) fun p hp => Heap.lt_size (N p hp).1) (fun fl s' hl => lv _ _ hl) fun _ _ y => y
end
end Mine
namespace Mine
/-- the cells of a frame, one after the other -/
noncomputable def CellsQ (news : Led) : List (Addr × Option Value) → (Led → Prop) → Prop
  | [], P => P news
  | (c, v) :: r, P => ∀ o : Obj, o.data = .cell v → CellsQ news r fun l => P ((c, o) :: l)
theorem CellsQ.go {news : Led} {cm : Str → Option Value} {cs : List (Str × Addr)} {cells : Led} (Y : CellsAre cm cs cells) : ∀ {P : Led → Prop}, CellsQ news (cs.map fun p => (p.2, cm p.1)) P → P (cells ++ news) := by
  induction Y with
  | nil => exact fun h => h
  | cons h _ ih => exact fun k => ih (k _ h)
theorem bindL_lk {kd : Str → Option NameKind} : ∀ (b : List (Str × Value)) (m : Str → Option Value) (y : Str), bindL kd b m y = ((b.filter fun p => kd p.1 == some .local).reverse.lookup y).or (m y)
  | [], m, y => by simp [bindL]
  | (n, v) :: r, m, y => by
    unfold bindL
    rw [bindL_lk r, List.filter_cons]
    by_cases h : kd n = some .local
    · have h' : (kd (n, v).1 == some NameKind.local) = true := beq_iff_eq.mpr h
      rw [if_pos h, if_pos h', List.reverse_cons, List.lookup_append]
      cases q : List.lookup y (r.filter fun p => kd p.1 == some .local).reverse with
      | some z => simp
      | none =>
        by_cases e : y = n
        · subst e; simp
        · have e' : (y == n) = false := beq_false_of_ne e
          simp [List.lookup, e, e']
    · have h' : ¬ (kd (n, v).1 == some NameKind.local) = true := fun q => h (beq_iff_eq.mp q)
      rw [if_neg h, if_neg h']
section
variable {prog : Program} {w : World} {A₀ A : Around} {s : Shared} {base h₀ : Heap} {outer : List Env} {L : Addr} {m : Str → Option Value} {news : Led} {K : Frag} {p : Program} {loose : List Str} {mean : ExcName → Option Value} {mg mb : Str → Option Value}
/-- a def with cells is entered; ls: its names at hand, cs: its cells -/
theorem code_defCT {env : Env} {R : Result → Shared → Prop} {name qual : Str} {params : Arguments} {body : List Stmt} {scope : Scope} {dV kV doc pm cdv ct oc : Value} {an od : Option Addr} {osl : Array (Option Value)} {f : Addr} {vs : List Value} (ns : List Str) (ls : List (Str × Value)) (cs : Addr → List (Addr × Option Value))
    (B : Below A₀ base outer h₀) (F : Fr h₀ L s.heap m) (X₀ : K.In h₀) (N : News h₀ L s.heap news) (T : Top p loose mean mg mb h₀) (hA : A.frames = some (env :: outer)) (hf : env.frame = some L) (hke : env.scope.kind = .function)
    (ho : K.lookup f = some ⟨oc, od, .func (fnOf name qual params body scope dV kV doc pm an cdv ct), osl⟩) (hcd : codeIn K cdv qual = true) (hroom : A.depth < recursionLimit)
    (hbind : bindArgs (fnOf name qual params body scope dV kV doc pm an cdv ct) ⟨vs, []⟩ = pure (ns.zip vs)) (hkind : ((ns.zip vs).all fun y => scope.names.lookup y.1 == some .local || scope.names.lookup y.1 == some .cell) = true)
    (hnd : ((cellsFrom 0 scope.names []).map (·.1)).Nodup)
    (hls : (((ns.zip vs).filter fun y => scope.names.lookup y.1 == some .local).reverse) = ls)
    (hcs : ∀ L', ((cellsFrom (L' + 1) scope.names []).map fun y => (y.2, bindC (fun z => scope.names.lookup z) (ns.zip vs) (fun _ => none) y.1)) = cs L')
    (h : ∀ g L' h₁ tk, s.toks ≤ tk → Fr h₀ L g m → Fr g L' h₁ (lk ls) → Below A base (env :: outer) g → K.In g → Top p loose mean mg mb g → AllLt L' news →
      CellsQ news (cs L') fun led => News g L' h₁ led →
      let env' := envOfC qual scope L' f cdv; let A' := A.deeper env'; wpAny (model prog w) A' (execs body env')
        (fun fl s' => LeaveK h₀ L m g R (match fl with | .ret v => v | _ => .none) s') (fun _ _ => False)
        { s with heap := h₁, toks := tk })
    (hco : scope.isCoroutine = false) (hgen : scope.isGenerator = false) (hk : scope.kind = .function) : codeAny (model prog w) A (.call (.ref f) ⟨vs, []⟩) R s :=
  code_defT B F X₀ N T hA hf hke ho hcd hroom (BindsTo.of_eq hbind) hkind hnd (fun g L' h₁ tk cells le FG F' N' Y B' X' T' l => by
    have hm : (bindL (envOfC qual scope L' f cdv).kindOf (ns.zip vs) fun _ => none) = lk ls := by
      funext y
      rw [bindL_lk, Option.or_none]
      show List.lookup y _ = List.lookup y ls
      rw [← hls]; rfl
    rw [hm] at F'
    have q := h g L' h₁ tk le FG F' B' X' T' (allLt_of l)
    rw [← hcs L'] at q
    exact wpAny_mono (CellsQ.go Y q N') (fun _ _ x => x) fun _ _ x => x.elim) hco hgen hk
theorem code_defCL {env : Env} {R : Result → Shared → Prop} {name qual : Str} {params : Arguments} {body : List Stmt} {scope : Scope} {dV kV doc pm cdv ct oc : Value} {an od : Option Addr} {osl : Array (Option Value)} {f : Addr} {vs : List Value} (ns : List Str) (ls : List (Str × Value)) (cs : Addr → List (Addr × Option Value))
    (B : Below A₀ base outer h₀) (F : Fr h₀ L s.heap m) (X₀ : K.In h₀) (N : News h₀ L s.heap news) (T : Top p loose mean mg mb h₀) (hA : A.frames = some (env :: outer)) (hf : env.frame = some L) (hke : env.scope.kind = .function)
    (ho : K.lookup f = some ⟨oc, od, .func (fnOf name qual params body scope dV kV doc pm an cdv ct), osl⟩) (hcd : codeIn K cdv qual = true) (hroom : A.depth < recursionLimit)
    (hbind : bindArgs (fnOf name qual params body scope dV kV doc pm an cdv ct) ⟨vs, []⟩ = pure (ns.zip vs)) (hkind : ((ns.zip vs).all fun y => scope.names.lookup y.1 == some .local || scope.names.lookup y.1 == some .cell) = true)
    (hnd : ((cellsFrom 0 scope.names []).map (·.1)).Nodup)
    (hls : (((ns.zip vs).filter fun y => scope.names.lookup y.1 == some .local).reverse) = ls)
    (hcs : ∀ L', ((cellsFrom (L' + 1) scope.names []).map fun y => (y.2, bindC (fun z => scope.names.lookup z) (ns.zip vs) (fun _ => none) y.1)) = cs L')
    (h : ∀ g L' h₁ tk, Fr h₀ L g m → Fr g L' h₁ (lk ls) → Below A base (env :: outer) g → K.In g → Top p loose mean mg mb g → AllLt L' news →
      CellsQ news (cs L') fun led => News g L' h₁ led →
      let env' := envOfC qual scope L' f cdv; let A' := A.deeper env'; wpAny (model prog w) A' (execs body env')
        (fun fl s' => LeaveK h₀ L m g R (match fl with | .ret v => v | _ => .none) s') (fun _ _ => False)
        { s with heap := h₁, toks := tk })
    (hco : scope.isCoroutine = false) (hgen : scope.isGenerator = false) (hk : scope.kind = .function) : codeAny (model prog w) A (.call (.ref f) ⟨vs, []⟩) R s :=
  code_defCT ns ls cs B F X₀ N T hA hf hke ho hcd hroom hbind hkind hnd hls hcs (fun g L' h₁ tk _ => h g L' h₁ tk) hco hgen hk
end
end Mine

end
noncomputable section
open PySem PySem.W PyProof.Rows PySem.Spec PySem.Calls
set_option Elab.async false
set_option maxRecDepth 100000
namespace Mine
section
variable {prog : Program} {w : World} {A : Around} {E : Value → Shared → Prop} {s : Shared} {h₀ : Heap} {L : Addr} {m : Str → Option Value} {news : Led}
theorem item_mem {value slice : Expr} {l : Addr} {vs : Array Value} {nn : Nat} {k : Int} {u : Tok} {v : Value} {Q : Value → Shared → Prop} (N : News h₀ L s.heap news) (hm : (l, listOf vs nn) ∈ news)
    (h0 : 0 ≤ k) (hhi : k < 2 ^ 63) (hx : vs[k.toNat]? = some v) (h : Q v s)
    (hs : subscripted slice false (.ref l) (.int k u) = operate [.ref l, .int k u] (getItem (.ref l) (.int k u)) := by with_unfolding_all rfl) :
    wpAny (model prog w) A (subscriptTail value slice (.ref l) (.int k u)) Q E s :=
  have hL := News.isList N hm
  tail_any hL.typeIs slot_list_getitem.lookup (wpAny_getItem_list hL h0 hhi hx h) hs
theorem item_neg {value slice : Expr} {l : Addr} {vs : Array Value} {nn : Nat} {k : Int} {u : Tok} {v : Value} {Q : Value → Shared → Prop} (N : News h₀ L s.heap news) (hm : (l, listOf vs nn) ∈ news)
    (h0 : k < 0) (h1 : -(vs.size : Int) ≤ k) (hlo : -(2 ^ 63) ≤ k) (hx : vs[(k + vs.size).toNat]? = some v) (h : Q v s)
    (hs : subscripted slice false (.ref l) (.int k u) = operate [.ref l, .int k u] (getItem (.ref l) (.int k u)) := by with_unfolding_all rfl) :
    wpAny (model prog w) A (subscriptTail value slice (.ref l) (.int k u)) Q E s :=
  have hL := News.isList N hm
  tail_any hL.typeIs slot_list_getitem.lookup (wpAny_getItem_list_neg hL h0 h1 hlo hx h) hs
theorem item_0 {value slice : Expr} {l : Addr} {r : List Value} {nn : Nat} {u : Tok} {v : Value} {Q : Value → Shared → Prop} (N : News h₀ L s.heap news) (hm : (l, listOf (v :: r).toArray nn) ∈ news) (h : Q v s)
    (hs : subscripted slice false (.ref l) (.int 0 u) = operate [.ref l, .int 0 u] (getItem (.ref l) (.int 0 u)) := by with_unfolding_all rfl) :
    wpAny (model prog w) A (subscriptTail value slice (.ref l) (.int 0 u)) Q E s := item_mem N hm (by decide) (by decide) rfl h hs
theorem item_1 {value slice : Expr} {l : Addr} {v0 : Value} {r : List Value} {nn : Nat} {u : Tok} {v : Value} {Q : Value → Shared → Prop} (N : News h₀ L s.heap news) (hm : (l, listOf (v0 :: v :: r).toArray nn) ∈ news) (h : Q v s)
    (hs : subscripted slice false (.ref l) (.int 1 u) = operate [.ref l, .int 1 u] (getItem (.ref l) (.int 1 u)) := by with_unfolding_all rfl) :
    wpAny (model prog w) A (subscriptTail value slice (.ref l) (.int 1 u)) Q E s := item_mem N hm (by decide) (by decide) rfl h hs
theorem item_2 {value slice : Expr} {l : Addr} {v0 v1 : Value} {r : List Value} {nn : Nat} {u : Tok} {v : Value} {Q : Value → Shared → Prop} (N : News h₀ L s.heap news) (hm : (l, listOf (v0 :: v1 :: v :: r).toArray nn) ∈ news) (h : Q v s)
    (hs : subscripted slice false (.ref l) (.int 2 u) = operate [.ref l, .int 2 u] (getItem (.ref l) (.int 2 u)) := by with_unfolding_all rfl) :
    wpAny (model prog w) A (subscriptTail value slice (.ref l) (.int 2 u)) Q E s := item_mem N hm (by decide) (by decide) rfl h hs
theorem item_3 {value slice : Expr} {l : Addr} {v0 v1 v2 : Value} {r : List Value} {nn : Nat} {u : Tok} {v : Value} {Q : Value → Shared → Prop} (N : News h₀ L s.heap news) (hm : (l, listOf (v0 :: v1 :: v2 :: v :: r).toArray nn) ∈ news) (h : Q v s)
    (hs : subscripted slice false (.ref l) (.int 3 u) = operate [.ref l, .int 3 u] (getItem (.ref l) (.int 3 u)) := by with_unfolding_all rfl) :
    wpAny (model prog w) A (subscriptTail value slice (.ref l) (.int 3 u)) Q E s := item_mem N hm (by decide) (by decide) rfl h hs
end
end Mine
namespace Mine
section
variable {prog : Program} {w : World} {A : Around} {E : Value → Shared → Prop} {s : Shared} {h₀ : Heap} {L : Addr} {news : Led}
theorem item_last {value slice : Expr} {l : Addr} {r : List Value} {nn : Nat} {u : Tok} {v : Value} {Q : Value → Shared → Prop} (N : News h₀ L s.heap news) (hm : (l, listOf (r ++ [v]).toArray nn) ∈ news) (h : Q v s)
    (hs : subscripted slice false (.ref l) (.int (-1) u) = operate [.ref l, .int (-1) u] (getItem (.ref l) (.int (-1) u)) := by with_unfolding_all rfl) :
    wpAny (model prog w) A (subscriptTail value slice (.ref l) (.int (-1) u)) Q E s :=
  item_neg N hm (by decide) (by rw [List.size_toArray, List.length_append]; simp only [List.length_singleton]; (first | lia | omega)) (by decide) (by
    rw [List.size_toArray, List.length_append, show ((-1 : Int) + ((r.length + [v].length : Nat) : Int)).toNat = r.length by simp only [List.length_singleton]; (first | lia | omega)]
    rw [List.getElem?_toArray, List.getElem?_append_right (Nat.le_refl _), Nat.sub_self]; rfl) h hs
end
end Mine

end
noncomputable section
open PySem PySem.W PyProof.Rows PySem.Spec PySem.Calls Builtin Builtin.Str
set_option Elab.async false
set_option maxRecDepth 100000
namespace Mine
theorem gives_rfind4 (x y : Str) (i j : Int) (t u v v' : Tok) : Gives («str.rfind» ⟨[.str x t, .str y u, .int i v, .int j v'], []⟩)
    (.int (match lastOccurrence x y (fromIndex x.length i) (min (fromIndex x.length j) x.length) with | some k => (k : Int) | none => -1)) := by
  show Gives (match lastOccurrence x y (fromIndex x.length i) (min (fromIndex x.length j) x.length) with | some i => retInt i | none => (do rule "str.rfind.not-found"; retInt (-1))) _
  cases lastOccurrence x y (fromIndex x.length i) (min (fromIndex x.length j) x.length) with
  | none => exact .rule (.of_eq rfl)
  | some i => exact .of_eq rfl
def rfind4 (x y : Str) (i j : Int) : Int := match lastOccurrence x y (fromIndex x.length i) (min (fromIndex x.length j) x.length) with | some k => (k : Int) | none => -1
section
variable {prog : Program} {w : World} {A : Around} {E : Value → Shared → Prop} {s : Shared} {x y z : Str} {t u v v' : Tok} {Q : Value → Shared → Prop} {i j : Int}
theorem call_rfind4 (hq : Q (.int (rfind4 x y i j) s.toks) { s with toks := s.toks + 1 }) : wpAny (model prog w) A (call (.builtin "str.rfind") [.str x t, .str y u, .int i v, .int j v']) Q E s :=
  call_gives F.slot_str_rfind (typeIs_str _ _ _) F.entry_str_rfind (F.args_str_rfind_4 _ _ _ _) (gives_rfind4 x y i j t u v v') hq
end
/-- the first one alone put in another's place -/
def replace1 (x y z : Str) : Str :=
  if ((occurrences x y 0 x.length 1).isEmpty || (y.length == 0 && z.length == 0)) = true then x
  else glued z (partsBetween x (occurrences x y 0 x.length 1) y.length)
theorem gives_replace1 (x y z : Str) (t u v v' : Tok)
    (hf : ((occurrences x y 0 x.length 1).isEmpty || (y.length == 0 && z.length == 0)) = false →
      (u == 0 || v == 0) = false ∧ (u == v) = false ∧ tooLong (x.length + (occurrences x y 0 x.length 1).length * z.length) = false) :
    GivesAt (fun s => NoneBooked s.heap) («str.replace» ⟨[.str x t, .str y u, .str z v, .int 1 v'], []⟩)
      (if ((occurrences x y 0 x.length 1).isEmpty || (y.length == 0 && z.length == 0)) = true then .val (.str x t)
       else if (y == z) = true then .either (.val (.str x t)) (.str (glued z (partsBetween x (occurrences x y 0 x.length 1) y.length)))
       else .str (glued z (partsBetween x (occurrences x y 0 x.length 1) y.length))) := by
  show GivesAt _ (if ((occurrences x y 0 x.length 1).isEmpty || (y.length == 0 && z.length == 0)) = true then (do rule "str.replace.nothing"; ret (.str x t)) else
          (do let same ← isSame (.str y u) (.str z v)
              if same = true then (do rule "str.replace.old-is-new"; ret (.str x t)) else
              if tooLong (x.length + (occurrences x y 0 x.length 1).length * z.length) = true then unsupported "str.replace:memory" else
              retStr (glued z (partsBetween x (occurrences x y 0 x.length 1) y.length)))) _
  cases hc : ((occurrences x y 0 x.length 1).isEmpty || (y.length == 0 && z.length == 0))
  · obtain ⟨h0, huv, hl⟩ := hf hc
    cases hyz : (y == z)
    · rw [isSame_str_other y z u v h0 huv hyz, hl]
      exact Gives.at (.of_eq rfl)
    · intro prog w A R s hb hq
      show wpAny _ _ (isSame (.str y u) (.str z v) >>= _) _ _ _
      refine wpAny_bind (wpAny_isSame_str h0 hb fun b => ?_)
      cases b
      · show wpAny _ _ (if tooLong (x.length + (occurrences x y 0 x.length 1).length * z.length) = true then _
                         else retStr (glued z (partsBetween x (occurrences x y 0 x.length 1) y.length))) _ _ _
        rw [hl]
        exact wpAny_bind (wpAny_mkStr (wpAny_pure hq.2.2) hq.2.1)
      · exact wpAny_bind (wpAny_rule (wpAny_pure hq.1))
  · exact Gives.at (.rule (.of_eq rfl))
end Mine
namespace Mine
section
variable {prog : Program} {w : World} {A : Around} {E : Value → Shared → Prop} {s : Shared} {x y z : Str} {t u v v' : Tok} {Q : Value → Shared → Prop}
theorem tooLong_of {n : Nat} (h : n ≤ 16777216) : tooLong n = false := by unfold tooLong sizeLine; exact decide_eq_false (by (first | lia | omega))
theorem parts_self (x y : Str) (cuts : List Nat) : True := trivial
theorem call_replace1 (hu : u ≠ 0) (hv : v ≠ 0) (huv : u ≠ v) (hnb : NoneBooked s.heap) (hb : x.length + z.length ≤ 16777216) (hl : (occurrences x y 0 x.length 1).length ≤ 1) (hr : (replace1 x y z).length ≤ 16777216) (hself : replace1 x y y = x)
    (hq : ∀ t' k, Q (.str (replace1 x y z) t') { s with toks := k }) :
    wpAny (model prog w) A (call (.builtin "str.replace") [.str x t, .str y u, .str z v, .int 1 v']) Q E s := by
  have h1 : (occurrences x y 0 x.length 1).length * z.length ≤ 1 * z.length := Nat.mul_le_mul_right _ hl
  refine call_givesAt F.slot_str_replace (typeIs_str _ _ _) F.entry_str_replace (F.args_str_replace_4 _ _ _ _)
    (gives_replace1 x y z t u v v' fun _ => ⟨by simp [hu, hv], by simp [huv], tooLong_of (by (first | lia | omega))⟩) hnb ?_
  have hq' := hq
  unfold replace1 at hq' hr
  cases hc : ((occurrences x y 0 x.length 1).isEmpty || (y.length == 0 && z.length == 0))
  · rw [hc] at hq' hr
    simp only [Bool.false_eq_true, if_false] at hq' hr ⊢
    cases hyz : (y == z)
    · simp only [Bool.false_eq_true, if_false]
      exact ⟨by rw [sizeLine_eq]; exact hr, hq' _ _⟩
    · simp only [if_true]
      have e : y = z := eq_of_beq hyz
      subst e
      unfold replace1 at hself
      rw [hc] at hself
      simp only [Bool.false_eq_true, if_false] at hself
      rw [hself] at hq' hr ⊢
      dsimp only [Made.post]
      exact ⟨hq' t s.toks, by rw [sizeLine_eq]; exact hr, hq' _ _⟩
  · rw [hc] at hq'
    simp only [if_true] at hq' ⊢
    exact hq' t s.toks
theorem nobook_of {K : Frag} {h : Heap} {p : Program} {loose : List Str} {mean : ExcName → Option Value} {mg mb : Str → Option Value} (X : K.In h) (T : Top p loose mean mg mb h) (e : nsIn K cStatics sharingNotToldKey = some none) : NoneBooked h := by
  obtain ⟨mc, G, _⟩ := T.nodigits
  refine ⟨mc, G, ?_⟩
  obtain ⟨o, es, ep, ho, hd, _, hf⟩ := G
  unfold nsIn at e
  split at e
  · rename_i c d es' n' sl q
    have := X _ _ q
    rw [ho] at this
    cases this
    cases hd
    split at e
    · cases e
    · rename_i he
      rw [← hf]
      unfold nsFind findBy
      rw [← Array.find?_toList, he]
      rfl
  · cases e
theorem NoneBooked.up {h h' : Heap} (x : NoneBooked h) (k : ∀ b o, h.get? b = some o → h'.get? b = some o) : NoneBooked h' := let ⟨mc, G, e⟩ := x; ⟨mc, G.keeps k, e⟩
end
end Mine

end
noncomputable section
open PySem PySem.W PyProof.Rows PySem.Spec PySem.Calls Builtin Builtin.Str
set_option Elab.async false
set_option maxRecDepth 100000
namespace Mine
abbrev L (x : Str) : List Nat := x.cps.toList
abbrev S (l : List Nat) : Str := ⟨l.toArray⟩
theorem L_S (l : List Nat) : L (S l) = l := by simp [L]
theorem S_L (x : Str) : S (L x) = x := by cases x; simp [L, S]
theorem str_ext {x y : Str} (h : L x = L y) : x = y := by rw [← S_L x, ← S_L y, h]
theorem L_len (x : Str) : (L x).length = x.length := by simp [L, Str.length]
theorem L_app (x y : Str) : L (x ++ y) = L x ++ L y := by simp [L, Str.cps_append]
theorem fm_range (l : List Nat) (a : Nat) : ∀ c, a + c ≤ l.length → ((List.range c).map (fun k => a + k)).filterMap (fun i => l[i]?) = (l.drop a).take c
  | 0, _ => by simp
  | c + 1, h => by
    rw [List.range_succ, List.map_append, List.filterMap_append, fm_range l a c (by (first | lia | omega)), List.take_add_one]
    have : a + c < l.length := by (first | lia | omega)
    simp [List.getElem?_drop, this]
def clipN (v : Option Int) (d n : Nat) : Nat := match v with
  | none => d
  | some i => (max 0 (min (if i < 0 then i + n else i) (n : Int))).toNat
theorem clip0 (i : Int) (n : Nat) (h : 0 ≤ i) : (max 0 (min i (n : Int))).toNat = min i.toNat n := by
  obtain ⟨k, rfl⟩ := Int.eq_ofNat_of_zero_le h
  rw [Int.toNat_natCast]
  rcases Nat.le_total k n with q | q
  · rw [Int.min_eq_left (Int.ofNat_le.mpr q), Nat.min_eq_left q, Int.max_eq_right h, Int.toNat_natCast]
  · rw [Int.min_eq_right (Int.ofNat_le.mpr q), Nat.min_eq_right q, Int.max_eq_right (Int.natCast_nonneg n), Int.toNat_natCast]
theorem drop_min {l : List Nat} {i n : Nat} (h : l.length ≤ n) : l.drop (min i n) = l.drop i := by
  rcases Nat.le_total i n with q | q
  · rw [Nat.min_eq_left q]
  · rw [Nat.min_eq_right q, List.drop_eq_nil_of_le h, List.drop_eq_nil_of_le (Nat.le_trans h q)]
theorem take_min {l : List Nat} {j : Nat} : l.take (min j l.length) = l.take j := by
  rcases Nat.le_total j l.length with q | q
  · rw [Nat.min_eq_left q]
  · rw [Nat.min_eq_right q, List.take_length, List.take_of_length_le q]
theorem idx_key (a b : Nat) : sliceRange (a : Int) (b : Int) 1 = (List.range (b - a)).map (fun k => a + k) := by
  unfold sliceRange
  rw [if_pos (show (1 : Int) > 0 by decide)]
  dsimp only
  have e : (if (a : Int) < b then ((b : Int) - a + 1 - 1) / 1 else 0 : Int).toNat = b - a := by
    split
    · rw [Int.ediv_one, Int.add_sub_cancel, Int.toNat_sub]
    · rename_i h
      exact (Nat.sub_eq_zero_of_le (Int.ofNat_le.mp (Int.not_lt.mp h))).symm
  rw [e]
  refine List.map_congr_left fun k _ => ?_
  rw [Int.one_mul]; rfl
theorem idx_eq (lo hi : Option Int) (n : Nat) : strSliceIndices lo hi 1 n = (List.range (clipN hi n n - clipN lo 0 n)).map (fun k => clipN lo 0 n + k) := by
  have key : ∀ (a b : Int), 0 ≤ a → 0 ≤ b → sliceRange a b 1 = (List.range (b.toNat - a.toNat)).map (fun k => a.toNat + k) := by
    intro a b ha hb
    obtain ⟨a, rfl⟩ := Int.eq_ofNat_of_zero_le ha
    obtain ⟨b, rfl⟩ := Int.eq_ofNat_of_zero_le hb
    exact idx_key a b
  unfold strSliceIndices
  simp only [show (1 : Int) > 0 by decide, if_true]
  cases lo <;> cases hi
  · exact key 0 n (Int.le_refl 0) (Int.natCast_nonneg n)
  · exact key 0 _ (Int.le_refl 0) (Int.le_max_left _ _)
  · exact key _ n (Int.le_max_left _ _) (Int.natCast_nonneg n)
  · exact key _ _ (Int.le_max_left _ _) (Int.le_max_left _ _)
theorem slice_L (x : Str) (lo hi : Option Int) : L (Txt.slice x lo hi) = ((L x).take (clipN hi (L x).length (L x).length)).drop (clipN lo 0 (L x).length) := by
  have hle : clipN hi (L x).length (L x).length ≤ (L x).length := by
    cases hi with
    | none => exact Nat.le_refl _
    | some i => exact Int.toNat_le.mpr (Int.max_le.mpr ⟨Int.natCast_nonneg _, Int.min_le_right _ _⟩)
  have gen : (strSliceIndices lo hi 1 x.length).filterMap (x.cps[·]?) = ((L x).take (clipN hi (L x).length (L x).length)).drop (clipN lo 0 (L x).length) := by
    rw [idx_eq, ← L_len]
    have e : (fun (i : Nat) => x.cps[i]?) = fun i => (L x)[i]? := by funext i; simp [L]
    rw [e]
    by_cases h : clipN lo 0 (L x).length ≤ clipN hi (L x).length (L x).length
    · rw [fm_range _ _ _ (by (first | lia | omega)), List.drop_take]
    · rw [show clipN hi (L x).length (L x).length - clipN lo 0 (L x).length = 0 by (first | lia | omega)]
      simp only [List.range_zero, List.map_nil, List.filterMap_nil]
      rw [List.drop_eq_nil_of_le]
      rw [List.length_take]; (first | lia | omega)
  unfold Txt.slice
  split
  · rename_i h
    rw [← gen]
    have hl : (strSliceIndices lo hi 1 x.length).length = x.length := by simpa using h
    rw [gen]
    rw [idx_eq, List.length_map, List.length_range, ← L_len] at hl
    rcases Nat.eq_zero_or_pos (L x).length with h0 | h0
    · rw [List.eq_nil_of_length_eq_zero h0]; simp
    · have h1 : clipN lo 0 (L x).length = 0 := by (first | lia | omega)
      have h2 : clipN hi (L x).length (L x).length = (L x).length := by (first | lia | omega)
      rw [h1, h2, List.take_length, List.drop_zero]
  · show (List.filterMap _ _).toArray.toList = _
    rw [List.toList_toArray]; exact gen
theorem slice_ss (x : Str) {i j : Int} (hi : 0 ≤ i) (hj : 0 ≤ j) : L (Txt.slice x (some i) (some j)) = ((L x).take j.toNat).drop i.toNat := by
  rw [slice_L]
  show ((L x).take (max 0 (min (if j < 0 then j + ((L x).length : Int) else j) ((L x).length : Int))).toNat).drop (max 0 (min (if i < 0 then i + ((L x).length : Int) else i) ((L x).length : Int))).toNat = _
  rw [if_neg (Int.not_lt.mpr hi), if_neg (Int.not_lt.mpr hj), clip0 _ _ hi, clip0 _ _ hj, take_min]
  exact drop_min (List.length_take_le' _ _)
theorem slice_sn (x : Str) {i : Int} (hi : 0 ≤ i) : L (Txt.slice x (some i) none) = (L x).drop i.toNat := by
  rw [slice_L]
  show ((L x).take (L x).length).drop (max 0 (min (if i < 0 then i + ((L x).length : Int) else i) ((L x).length : Int))).toNat = _
  rw [if_neg (Int.not_lt.mpr hi), clip0 _ _ hi, List.take_length]
  exact drop_min (Nat.le_refl _)
theorem slice_ns (x : Str) {j : Int} (hj : 0 ≤ j) : L (Txt.slice x none (some j)) = (L x).take j.toNat := by
  rw [slice_L]
  show ((L x).take (max 0 (min (if j < 0 then j + ((L x).length : Int) else j) ((L x).length : Int))).toNat).drop 0 = _
  rw [if_neg (Int.not_lt.mpr hj), clip0 _ _ hj, take_min]
  rfl
theorem item_L (x : Str) {i : Nat} {c : Nat} (h : (L x)[i]? = some c) : Txt.item x (i : Int) = ch c := by
  have hi : i < x.length := by
    rw [← L_len]
    exact (List.getElem?_eq_some_iff.mp h).1
  have h' : x.cps[i]? = some c := by simpa [L] using h
  unfold Txt.item Txt.charAt
  have e : seqIndex? (i : Int) x.length = some i := by
    simp [seqIndex?]
    (first | lia | omega)
  rw [e]
  simp [h']
theorem ch_inj {a b : Nat} : (ch a == ch b) = (a == b) := by
  by_cases h : a = b
  · subst h; simp
  · have : ch a ≠ ch b := fun e => h (by cases e; rfl)
    rw [beq_eq_false_iff_ne.mpr this, beq_eq_false_iff_ne.mpr h]
end Mine

namespace Mine
section
variable {prog : Program} {w : World} {A : Around} {E : Value → Shared → Prop} {s : Shared} {h₀ : Heap} {L₀ : Addr} {m : Str → Option Value} {news news' : Led}
/-- an item appended to a list of the ledger -/
theorem append_led {l : Addr} {vs : List Value} {cap : Nat} {v : Value} {Q : Value → Shared → Prop} {hH : Heap} {tk : Nat} (F : Fr h₀ L₀ hH m) (N : News h₀ L₀ hH news) (U : Upd l (listOf vs.toArray cap) (listOf (vs ++ [v]).toArray (cap + 1)) news news')
    (hsz : vs.length ≤ sizeLine) (h : ∀ h', Fr h₀ L₀ h' m → let n' := news'; News h₀ L₀ h' n' → Q .none { s with heap := h', toks := tk }) : wpAny (model prog w) A (call (.builtin "list.append") [.ref l, v]) Q E { s with heap := hH, toks := tk } := by
  obtain ⟨pre, post, rfl, rfl, h1, h2⟩ := U.split
  have hm := N (l, listOf vs.toArray cap) (by simp)
  refine append_at (s := { s with heap := hH, toks := tk }) (hsz := by rw [List.size_toArray]; exact hsz) hm.1 fun h' hs ho => ?_
  have ho' : h'.get? l = some (listOf (vs ++ [v]).toArray (cap + 1)) := by rw [ho]; simp
  exact h h' (F.change hs hm.2.1 hm.2.2) (N.setIn h1 h2 hs ho')
/-- the items of another list of the ledger put behind -/
theorem extend_led {l b : Addr} {vs us : List Value} {cap cap' : Nat} {Q : Value → Shared → Prop} (F : Fr h₀ L₀ s.heap m) (N : News h₀ L₀ s.heap news) (U : ∀ n', ∃ news', Upd l (listOf vs.toArray cap) (listOf (vs ++ us).toArray n') news news' ∧ ∀ h', Fr h₀ L₀ h' m → News h₀ L₀ h' news' → Q .none { s with heap := h' })
    (hb : (b, listOf us.toArray cap') ∈ news) (hsz : vs.length + us.length ≤ sizeLine) : wpAny (model prog w) A (call (.builtin "list.extend") [.ref l, .ref b]) Q E s := by
  obtain ⟨_, U0, _⟩ := U 0
  obtain ⟨pre, post, hn, _, h1, h2⟩ := U0.split
  have hb' := (N _ hb).1
  rw [hn] at N
  refine extend_in (own := pre) (rest := post) F N h1 h2 hb' (fun h' n' F' N' => ?_) (by rw [List.size_toArray]; exact hsz)
  obtain ⟨news', U1, k⟩ := U n'
  refine k h' F' ?_
  obtain ⟨pre', post', hn', hn'', h3, h4⟩ := U1.split
  rw [hn''] 
  intro p hp
  have hl : pre' ++ (l, listOf (vs ++ us).toArray n') :: post' = pre ++ (l, listOf (vs ++ us.toArray.toList).toArray n') :: post := by
    have e : pre' ++ (l, listOf vs.toArray cap) :: post' = pre ++ (l, listOf vs.toArray cap) :: post := hn'.symm.trans hn
    have key : ∀ (a a' b b' : Led), (∀ p ∈ a, p.1 ≠ l) → (∀ p ∈ a', p.1 ≠ l) → a ++ (l, listOf vs.toArray cap) :: b = a' ++ (l, listOf vs.toArray cap) :: b' → a = a' ∧ b = b' := by
      intro a
      induction a with
      | nil =>
        intro a' b b' _ h' e
        cases a' with
        | nil => exact ⟨rfl, (List.cons.inj e).2⟩
        | cons q a' => exact absurd (congrArg Prod.fst (List.cons.inj e).1).symm (h' q (.head _))
      | cons q a ih =>
        intro a' b b' h h' e
        cases a' with
        | nil => exact absurd (congrArg Prod.fst (List.cons.inj e).1) (h q (.head _))
        | cons q' a' =>
          obtain ⟨e1, e2⟩ := List.cons.inj e
          obtain ⟨r1, r2⟩ := ih a' b b' (fun p hp => h p (.tail _ hp)) (fun p hp => h' p (.tail _ hp)) e2
          exact ⟨by rw [e1, r1], r2⟩
    obtain ⟨r1, r2⟩ := key _ _ _ _ h3 h1 e
    rw [r1, r2]
  rw [hl] at hp
  exact N' p hp
end
end Mine
namespace Mine
section
variable {prog : Program} {w : World} {A : Around} {E : Value → Shared → Prop} {s : Shared} {h₀ : Heap} {L₀ : Addr} {m : Str → Option Value} {news : Led}
theorem extend_2 {l b : Addr} {vs us : List Value} {cap cap' : Nat} {Q : Value → Shared → Prop} (F : Fr h₀ L₀ s.heap m) (N : News h₀ L₀ s.heap ((b, listOf us.toArray cap') :: (l, listOf vs.toArray cap) :: news)) (hbl : b ≠ l) (off : ∀ p ∈ news, p.1 ≠ l)
    (hsz : vs.length + us.length ≤ sizeLine) (h : ∀ h' n', Fr h₀ L₀ h' m → News h₀ L₀ h' ((b, listOf us.toArray cap') :: (l, listOf (vs ++ us).toArray n') :: news) → Q .none { s with heap := h' }) :
    wpAny (model prog w) A (call (.builtin "list.extend") [.ref l, .ref b]) Q E s :=
  extend_in (own := [(b, listOf us.toArray cap')]) (rest := news) F N (by intro p hp; rw [List.mem_singleton.mp hp]; exact hbl) off (N _ (.head _)).1 (fun h' n' F' N' => h h' n' F' N') (by rw [List.size_toArray]; exact hsz)
end
theorem Chs.length {vs : List Value} {cs : List Nat} (h : Chs vs cs) : vs.length = cs.length := by
  unfold Chs at h
  induction vs generalizing cs with
  | nil => cases cs with | nil => rfl | cons c cs => cases h
  | cons v vs ih => cases cs with
    | nil => cases h
    | cons c cs => cases h with | cons _ _ r => rw [List.length_cons, List.length_cons, ih r]
theorem Chs.nil : Chs [] [] := StrsAre.nil
theorem Chs.snoc {vs : List Value} {cs : List Nat} {c : Nat} {t : Tok} (h : Chs vs cs) : Chs (vs ++ [.str (ch c) t]) (cs ++ [c]) := by
  unfold Chs; rw [List.map_append]; exact h.append' (.cons _ _ .nil)
theorem Chs.app {vs us : List Value} {cs ds : List Nat} (h : Chs vs cs) (k : Chs us ds) : Chs (vs ++ us) (cs ++ ds) := by
  unfold Chs; rw [List.map_append]; exact h.append' k
theorem Chs.get {vs : List Value} {cs : List Nat} (h : Chs vs cs) {i c : Nat} (e : cs[i]? = some c) : ∃ t, vs[i]? = some (.str (ch c) t) := by
  unfold Chs at h
  induction vs generalizing cs i with
  | nil => cases cs with | nil => simp at e | cons c cs => cases h
  | cons v vs ih => cases cs with
    | nil => cases h
    | cons c' cs => cases h with
      | cons _ t r => cases i with
        | zero => simp only [List.getElem?_cons_zero, Option.some.injEq] at e; subst e; exact ⟨t, rfl⟩
        | succ i => simp only [List.getElem?_cons_succ] at e ⊢; exact ih r e

theorem Spr.step {l : List Nat} {m : List Nat} (h : Spr l m) : l = [] ∧ m = [] ∨ (∃ c r m', l = 92 :: c :: r ∧ m = c :: m' ∧ Spr r m') ∨ (∃ a b r m', l = a :: 45 :: b :: r ∧ a ≠ 92 ∧ a ≤ b ∧ b ≤ a + 20000 ∧ m = rangeL a b ++ m' ∧ Spr r m') ∨
    ∃ a r m', l = a :: r ∧ (a = 92 → r = []) ∧ (∀ b r', r ≠ 45 :: b :: r') ∧ m = a :: m' ∧ Spr r m' := by
  cases h with
  | nil => exact .inl ⟨rfl, rfl⟩
  | esc c h => exact .inr (.inl ⟨c, _, _, rfl, rfl, h⟩)
  | rng a b h1 h2 h3 h => exact .inr (.inr (.inl ⟨a, b, _, _, rfl, h1, h2, h3, rfl, h⟩))
  | one a h1 h2 h => exact .inr (.inr (.inr ⟨a, _, _, rfl, h1, h2, rfl, h⟩))
end Mine

namespace Mine
theorem lit_bs : Str.ofString "\\" = ch 92 := by decide +kernel
theorem lit_dash : Str.ofString "-" = ch 45 := by decide +kernel
theorem drop_at {l : List Nat} {i a : Nat} (h : l[i]? = some a) : l.drop i = a :: l.drop (i + 1) := by
  obtain ⟨hi, rfl⟩ := List.getElem?_eq_some_iff.mp h
  exact List.drop_eq_getElem_cons hi
theorem at_of_drop {l : List Nat} {i a : Nat} {r : List Nat} (h : l.drop i = a :: r) : l[i]? = some a ∧ r = l.drop (i + 1) := by
  have hi : i < l.length := by
    rcases Nat.lt_or_ge i l.length with q | q
    · exact q
    · rw [List.drop_eq_nil_of_le q] at h; cases h
  rw [List.drop_eq_getElem_cons hi] at h
  obtain ⟨rfl, rfl⟩ := List.cons.inj h
  exact ⟨List.getElem?_eq_getElem hi, rfl⟩
section
variable {x : Str} {i : Nat} {m : List Nat}
theorem item_is {c d : Nat} (h : (L x)[i]? = some c) : (Txt.item x (i : Int) == ch d) = true ↔ c = d := by
  rw [item_L x h, ch_inj]; simp
theorem slice1_is {d : Nat} : (Txt.slice x (some ((i : Int) + 1)) (some ((i : Int) + 2)) == ch d) = true ↔ (L x)[i + 1]? = some d := by
  have e : L (Txt.slice x (some ((i : Int) + 1)) (some ((i : Int) + 2))) = ((L x).take (i + 2)).drop (i + 1) := slice_ss x (i := ((i + 1 : Nat) : Int)) (j := ((i + 2 : Nat) : Int)) (Int.natCast_nonneg _) (Int.natCast_nonneg _)
  rw [beq_iff_eq]
  constructor
  · intro h
    rw [h] at e
    have e' : [d] = ((L x).take (i + 2)).drop (i + 1) := e
    have : (((L x).take (i + 2)).drop (i + 1))[0]? = some d := by rw [← e']; rfl
    simpa [List.getElem?_drop, List.getElem?_take] using this
  · intro h
    refine str_ext ?_
    rw [e]
    obtain ⟨hi, hv⟩ := List.getElem?_eq_some_iff.mp h
    rw [List.take_add_one, h, List.drop_append_of_le_length (by rw [List.length_take, Nat.min_eq_left (Nat.le_of_lt hi)]; exact Nat.le_refl _), List.drop_eq_nil_of_le (by rw [List.length_take]; exact Nat.min_le_left _ _)]
    rfl
theorem spr_a (hs : Spr ((L x).drop i) m) (h : i < x.length) (he : (Txt.item x (i : Int) == ch 92) = true) (h1 : i + 1 < x.length) :
    ∃ c m', (L x)[i + 1]? = some c ∧ m = c :: m' ∧ Spr ((L x).drop (i + 2)) m' := by
  rw [← L_len] at h h1
  have ha : (L x)[i]? = some ((L x)[i]) := List.getElem?_eq_getElem h
  have hc : (L x)[i] = 92 := (item_is ha).mp he
  have d1 := drop_at ha
  have d2 := drop_at (List.getElem?_eq_getElem h1)
  rw [d1, hc, d2] at hs
  rcases hs.step with ⟨h, _⟩ | ⟨c, r, m', h, rfl, hr⟩ | ⟨a, b, r, m', h, hne, _⟩ | ⟨a, r, m', h, hn, _⟩
  · cases h
  · obtain ⟨_, q⟩ := List.cons.inj h
    obtain ⟨q1, q2⟩ := List.cons.inj q
    exact ⟨c, m', by rw [List.getElem?_eq_getElem h1, q1], rfl, by rw [q2]; exact hr⟩
  · exact absurd (List.cons.inj h).1.symm hne
  · obtain ⟨q1, q2⟩ := List.cons.inj h
    have := hn q1.symm
    rw [← q2] at this; cases this
theorem spr_b (hs : Spr ((L x).drop i) m) (h : i < x.length) (hn : ¬ ((Txt.item x (i : Int) == ch 92) = true ∧ i + 1 < x.length)) (hd : (Txt.slice x (some ((i : Int) + 1)) (some ((i : Int) + 2)) == ch 45) = true) (h2 : i + 2 < x.length) :
    ∃ a b m', (L x)[i]? = some a ∧ (L x)[i + 2]? = some b ∧ a ≤ b ∧ b ≤ a + 20000 ∧ m = rangeL a b ++ m' ∧ Spr ((L x).drop (i + 3)) m' := by
  rw [← L_len] at h h2 hn
  have ha : (L x)[i]? = some ((L x)[i]) := List.getElem?_eq_getElem h
  have hc : (L x)[i] ≠ 92 := fun q => hn ⟨(item_is ha).mpr q, Nat.lt_of_succ_lt h2⟩
  have d1 := drop_at ha
  have d2 := drop_at (slice1_is.mp hd)
  have d3 := drop_at (List.getElem?_eq_getElem h2)
  rw [d1, d2, d3] at hs
  rcases hs.step with ⟨h, _⟩ | ⟨c, r, m', h, rfl, hr⟩ | ⟨a, b, r, m', h, hne, l1, l2, rfl, hr⟩ | ⟨a, r, m', h, _, hn, _⟩
  · cases h
  · exact absurd (List.cons.inj h).1 hc
  · obtain ⟨q1, q⟩ := List.cons.inj h
    obtain ⟨_, q⟩ := List.cons.inj q
    obtain ⟨q2, q3⟩ := List.cons.inj q
    exact ⟨a, b, m', by rw [ha, q1], by rw [List.getElem?_eq_getElem h2, q2], l1, l2, rfl, by rw [q3]; exact hr⟩
  · obtain ⟨_, q⟩ := List.cons.inj h
    exact absurd q.symm (hn _ _)
theorem spr_c (hs : Spr ((L x).drop i) m) (h : i < x.length) (hn : ¬ ((Txt.item x (i : Int) == ch 92) = true ∧ i + 1 < x.length)) (hd : ¬ ((Txt.slice x (some ((i : Int) + 1)) (some ((i : Int) + 2)) == ch 45) = true ∧ i + 2 < x.length)) :
    ∃ a m', (L x)[i]? = some a ∧ m = a :: m' ∧ Spr ((L x).drop (i + 1)) m' := by
  rw [← L_len] at h hd hn
  have ha : (L x)[i]? = some ((L x)[i]) := List.getElem?_eq_getElem h
  have d1 := drop_at ha
  rw [d1] at hs
  rcases hs.step with ⟨h, _⟩ | ⟨c, r, m', h, rfl, hr⟩ | ⟨a, b, r, m', h, hne, l1, l2, rfl, hr⟩ | ⟨a, r, m', h, _, _, rfl, hr⟩
  · cases h
  · obtain ⟨q1, q⟩ := List.cons.inj h
    have q2 := at_of_drop q
    exact absurd ⟨(item_is ha).mpr q1, (List.getElem?_eq_some_iff.mp q2.1).1⟩ hn
  · obtain ⟨q1, q⟩ := List.cons.inj h
    have q2 := at_of_drop q
    have q3 := at_of_drop q2.2.symm
    exact absurd ⟨slice1_is.mpr q2.1, (List.getElem?_eq_some_iff.mp q3.1).1⟩ hd
  · obtain ⟨q1, q⟩ := List.cons.inj h
    exact ⟨a, m', by rw [ha, q1], rfl, by rw [q]; exact hr⟩
end
end Mine
namespace Mine
section
variable {x : Str} {i : Nat} {m : List Nat}
theorem spr_a' (hs : Spr ((L x).drop i) m) (h : (i : Int) < x.length) (he : (Txt.item x (i : Int) == Str.ofString "\\") = true) (h1 : (i : Int) + 1 < x.length) :
    ∃ c m', (L x)[i + 1]? = some c ∧ m = c :: m' ∧ Spr ((L x).drop (i + 2)) m' := spr_a hs (Int.ofNat_lt.mp h) (lit_bs ▸ he) (Int.ofNat_lt.mp h1)
theorem spr_b' (hs : Spr ((L x).drop i) m) (h : (i : Int) < x.length) (hn : ¬ ((Txt.item x (i : Int) == Str.ofString "\\") = true ∧ (i : Int) + 1 < x.length)) (hd : (Txt.slice x (some ((i : Int) + 1)) (some ((i : Int) + 2)) == Str.ofString "-") = true) (h2 : (i : Int) + 2 < x.length) :
    ∃ a b m', (L x)[i]? = some a ∧ (L x)[i + 2]? = some b ∧ a ≤ b ∧ b ≤ a + 20000 ∧ m = rangeL a b ++ m' ∧ Spr ((L x).drop (i + 3)) m' :=
  spr_b hs (Int.ofNat_lt.mp h) (fun q => hn ⟨lit_bs ▸ q.1, Int.ofNat_lt.mpr q.2⟩) (lit_dash ▸ hd) (Int.ofNat_lt.mp h2)
theorem spr_c' (hs : Spr ((L x).drop i) m) (h : (i : Int) < x.length) (hn : ¬ ((Txt.item x (i : Int) == Str.ofString "\\") = true ∧ (i : Int) + 1 < x.length)) (hd : ¬ ((Txt.slice x (some ((i : Int) + 1)) (some ((i : Int) + 2)) == Str.ofString "-") = true ∧ (i : Int) + 2 < x.length)) :
    ∃ a m', (L x)[i]? = some a ∧ m = a :: m' ∧ Spr ((L x).drop (i + 1)) m' :=
  spr_c hs (Int.ofNat_lt.mp h) (fun q => hn ⟨lit_bs ▸ q.1, Int.ofNat_lt.mpr q.2⟩) (fun q => hd ⟨lit_dash ▸ q.1, Int.ofNat_lt.mpr q.2⟩)
end
end Mine
namespace Mine
theorem Chs.step {vs : List Value} {l : List Nat} {i c : Nat} {t : Tok} (h : Chs vs (l.take i)) (e : l[i]? = some c) : Chs (vs ++ [.str (ch c) t]) (l.take (i + 1)) := by
  rw [List.take_add_one, e]; exact h.snoc
theorem rangeL_get {a b i : Nat} (h : i < b + 1 - a) : (rangeL a b)[i]? = some (a + i) := by
  unfold rangeL; rw [List.getElem?_map, List.getElem?_range h]; rfl
theorem rangeL_len (a b : Nat) : (rangeL a b).length = b + 1 - a := by simp [rangeL]
end Mine

end
noncomputable section
open PySem PySem.W PyProof.Rows PySem.Spec PySem.Calls
namespace Mine
/-- the box that the draws come from: a great number, a seed, a count of the draws, a mark -/
abbrev boxO (g sd c : Int) (t1 t2 t3 : Tok) (sm : Bool) (n : Nat) : Obj := listOf #[.int g t1, .int sd t2, .int c t3, .bool sm] n
theorem fmod_bd (a : Int) {m : Int} (h : 0 < m) : 0 ≤ a.fmod m ∧ a.fmod m < m := ⟨Int.fmod_nonneg_of_pos a h, Int.fmod_lt_of_pos a h⟩
theorem pow_nn {a : Int} {n : Nat} (h : 0 ≤ a) : 0 ≤ a ^ n := Int.pow_nonneg h
theorem take_a {sd c : Int} (hs : 0 ≤ sd) (hs' : sd < 2147483629) (hc : 0 ≤ c) (hc' : c < 1000000) : (sd + 15485821 * (c + 1) + 67).natAbs < 2 ^ 64 := by omega
theorem take_b {a c : Int} (hc : 0 ≤ c) (hc' : c < 1000000) : (a.fmod 2147483647 * 48271 + 7841 * (c + 1)).natAbs < 2 ^ 64 := by
  have := fmod_bd a (m := 2147483647) (by decide)
  omega
theorem take_nn {a c : Int} (hc : 0 ≤ c) : 0 ≤ a.fmod 2147483647 * 48271 + 7841 * (c + 1) := by
  have := fmod_bd a (m := 2147483647) (by decide)
  omega

def TakeS (K : Params → Frag) : Prop := ∀ (w : World) (b : Addr) (g sd c : Int) (t1 t2 t3 : Tok) (sm : Bool) (n : Nat) (news : Led) (many : Int) (tm : Tok), 0 ≤ g → 0 ≤ sd → sd < 2147483629 → 0 ≤ c → c < 1000000 → 0 < many → many < 1000 →
   (∀ p ∈ news, p.1 ≠ b) →
   Fn K w 434 1 [.ref b, .int many tm] ((b, boxO g sd c t1 t2 t3 sm n) :: news) fun r news' _ => ∃ d t g' c' t1' t3', r = .int d t ∧ 0 ≤ d ∧ d < many ∧ news' = (b, boxO g' sd c' t1' t2 t3' sm n) :: news ∧ 0 ≤ g' ∧ c ≤ c' ∧ c' ≤ c + 1
end Mine
end
noncomputable section
open PySem PySem.W PyProof.Rows PySem.Spec PySem.Calls
namespace Mine
abbrev ent (w : World) (k : String) (tk : Tok) (v : Value) : DictEntry := ⟨PyData.keyHash w.params (Str.ofString k), .str (Str.ofString k) tk, v⟩
abbrev thingD (w : World) (t1 t2 t3 t4 t5 t6 t7 t0 : Tok) (f : Addr) (x : Str) (t : Tok) (n : Nat) : Obj :=
  dictOf [ent w "number" t1 (.int 1 t0), ent w "owner" t2 .none, ent w "fields" t3 (.ref f), ent w "own" t4 .none, ent w "frozen" t5 (.bool false), ent w "ident" t6 .none, ent w "text" t7 (.str x t)] n
/-- a Text of the ledger -/
inductive ThingIn (w : World) (n : Led) (a : Addr) (x : Str) (t : Tok) : Prop
  | mk (dx f : Addr) (t1 t2 t3 t4 t5 t6 t7 t0 : Tok) (k : Nat) (h1 : (a, instObj 62 dx) ∈ n) (h2 : (dx, thingD w t1 t2 t3 t4 t5 t6 t7 t0 f x t k) ∈ n)
theorem thing_in {w : World} {n : Led} {a dx f : Addr} {x : Str} {t t1 t2 t3 t4 t5 t6 t7 t0 : Tok} {k : Nat} (h1 : (a, instObj 62 dx) ∈ n) (h2 : (dx, thingD w t1 t2 t3 t4 t5 t6 t7 t0 f x t k) ∈ n) : ThingIn w n a x t :=
  ⟨dx, f, t1, t2, t3, t4, t5, t6, t7, t0, k, h1, h2⟩
theorem ThingIn.mono {w : World} {n n' : Led} {a : Addr} {x : Str} {t : Tok} (h : ThingIn w n a x t) (hs : ∀ p ∈ n, p ∈ n') : ThingIn w n' a x t := by
  obtain ⟨dx, f, t1, t2, t3, t4, t5, t6, t7, t0, k, h1, h2⟩ := h
  exact ⟨dx, f, t1, t2, t3, t4, t5, t6, t7, t0, k, hs _ h1, hs _ h2⟩

def IsIntS (K : Params → Frag) : Prop := ∀ (w : World) (i : Int) (t : Tok) (news : Led), Fn K w 217 1 [.int i t] news fun r n _ => r = .bool true ∧ n = news
end Mine
end
noncomputable section
open PySem PySem.W PyProof.Rows PySem.Spec PySem.Calls
namespace Mine
def WholeS (K : Params → Frag) : Prop := ∀ (w : World) (i : Int) (t : Tok) (news : Led), Fn K w 332 2 [.none, .int i t] news fun r n _ => r = .int i t ∧ n = news
end Mine
end
noncomputable section
open PySem PySem.W PyProof.Rows PySem.Spec PySem.Calls
namespace Mine
def LettersS (K : Params → Frag) : Prop := ∀ (w : World) (a : Addr) (x : Str) (t : Tok) (news : Led), ThingIn w news a x t → Fn K w 318 1 [.none, .ref a] news fun r n _ => r = .str x t ∧ n = news
end Mine
end
noncomputable section
open PySem PySem.W PyProof.Rows PySem.Spec PySem.Calls
namespace Mine
def SizedS (K : Params → Frag) : Prop := ∀ (w : World) (x : Str) (t : Tok) (news : Led), x.length ≤ 20000 → Fn K w 325 1 [.none, .str x t] news fun r n _ => r = .str x t ∧ n = news
end Mine
end
noncomputable section
open PySem PySem.W PyProof.Rows PySem.Spec PySem.Calls
namespace Mine
def NeedFreeS (K : Params → Frag) : Prop := ∀ (w : World) (a : Addr) (x : Str) (t : Tok) (news : Led), ThingIn w news a x t → Fn K w 339 1 [.none, .ref a] news fun r n _ => r = .none ∧ n = news
end Mine
end
noncomputable section
open PySem PySem.W PyProof.Rows PySem.Spec PySem.Calls
namespace Mine
def ThingS (K : Params → Frag) : Prop := ∀ (w : World) (x : Str) (t : Tok) (news : Led),
   Fn K w 441 3 [.str x t] news fun r n _ => ∃ a dx f t1 t2 t3 t4 t5 t6 t7 t0, r = .ref a ∧ n = (a, instObj 62 dx) :: (dx, thingD w t1 t2 t3 t4 t5 t6 t7 t0 f x t 7) :: news ∧ (∀ p ∈ news, p.1 < dx) ∧ dx < a
section
variable {K : Params → Frag} {w : World} {news : Led}
theorem thing_use {x : Str} {t : Tok} (S : ThingS K) {p : Program} {loose : List Str} {mean : ExcName → Option Value} {mg mb : Str → Option Value}
    {dp un : Nat} {gd : Option (List Code)} {cn : Str} {cs : Scope} {a : Addr} {ccd : Value} {cl : List (Str × Addr)} {outer : List Env} {A₀ : Around} {base h₀ : Heap} {L : Addr} {m : Str → Option Value} {s : Shared} {hH : Heap} {tk : Nat}
    {Q E : Value → Shared → Prop} (B : Below A₀ base outer h₀) (F : Fr h₀ L hH m) (X : (K w.params).In h₀) (N : News h₀ L hH news) (T : Top p loose mean mg mb h₀) (hk : cs.kind = .function) (hd : dp + 3 < recursionLimit) (hu : un + 8 * 3 < cLine)
    (ret : ∀ a dx f t1 t2 t3 t4 t5 t6 t7 t0 h' tk', tk ≤ tk' → Fr h₀ L h' m → let n' := (a, instObj 62 dx) :: (dx, thingD w t1 t2 t3 t4 t5 t6 t7 t0 f x t 7) :: news; News h₀ L h' n' → AllLt dx news → @LT.lt Nat _ dx a → AllLt a ((dx, thingD w t1 t2 t3 t4 t5 t6 t7 t0 f x t 7) :: news) → Q (.ref a) { s with heap := h', toks := tk' }) :
    wpAny (model PySem.Challenge.rw_nz0043_01.row.toRowW.prog w) (ktrTop dp un gd cn cs L a ccd cl outer) (call (.ref 441) [.str x t]) Q E { s with heap := hH, toks := tk } :=
  (S w x t news).use (s := { s with heap := hH, toks := tk }) B F X N T hk hd hu fun _ _ h' tk' hle F' N' ⟨a, dx, f, t1, t2, t3, t4, t5, t6, t7, t0, e1, e2, hl, hd⟩ => by
    subst e1; subst e2; exact ret a dx f t1 t2 t3 t4 t5 t6 t7 t0 h' tk' hle F' N' (allLt_of hl) hd (allLt_of (List.forall_mem_cons.mpr ⟨hd, fun p hp => Nat.lt_trans (hl p hp) hd⟩))
end
end Mine
end
noncomputable section
open PySem PySem.W PyProof.Rows PySem.Spec PySem.Calls
namespace Mine
/-- None where it is less than nought -/
def optV (a : Int) (t : Tok) : Value := if a < 0 then .none else .int a t
theorem ex_neg {a : Int} (h : a < 0) : ∃ t, Value.none = optV a t := ⟨0, (if_pos h).symm⟩
theorem ex_pos {a : Int} {t : Tok} (h : ¬ a < 0) : ∃ t', Value.int a t = optV a t' := ⟨t, (if_neg h).symm⟩
def idxA (x y : Str) (i : Int) : Int := if 0 ≤ (if i < 0 then i + x.length else i) ∧ (if i < 0 then i + (x.length : Int) else i) ≤ x.length then Txt.find3 x y (if i < 0 then i + x.length else i) else -1
def ridxA (x y : Str) (i : Int) : Int := if (if i < 0 then i + (x.length : Int) else i) < 0 then -1 else rfind4 x y 0 ((if i < 0 then i + x.length else i) + y.length)
section
variable {x y : Str} {i : Int}
theorem idxA_1 (h : ¬ i < 0) (h' : i ≤ x.length) : idxA x y i = Txt.find3 x y i := by unfold idxA; rw [if_neg h, if_pos ⟨by omega, h'⟩]
theorem idxA_2 (h : i < 0) (h' : 0 ≤ i + x.length) : idxA x y i = Txt.find3 x y (i + x.length) := by unfold idxA; rw [if_pos h, if_pos ⟨by omega, by omega⟩]
theorem idxA_3 (h : ¬ i < 0) (h' : ¬ i ≤ x.length) : idxA x y i = -1 := by unfold idxA; rw [if_neg h, if_neg fun q => h' q.2]
theorem idxA_4 (h : i < 0) (h' : ¬ 0 ≤ i + x.length) : idxA x y i = -1 := by unfold idxA; rw [if_pos h, if_neg fun q => h' q.1]
theorem ridxA_1 (h : ¬ i < 0) : ridxA x y i = rfind4 x y 0 (i + y.length) := by unfold ridxA; rw [if_neg h, if_neg h]
theorem ridxA_2 (h : i < 0) (h' : ¬ i + x.length < 0) : ridxA x y i = rfind4 x y 0 (i + x.length + y.length) := by unfold ridxA; rw [if_pos h, if_neg h']
theorem ridxA_3 (h : i < 0) (h' : i + x.length < 0) : ridxA x y i = -1 := by unfold ridxA; rw [if_pos h, if_pos h']
end

def IndexS (K : Params → Frag) : Prop := ∀ (w : World) (a b ar : Addr) (x y : Str) (t u : Tok) (i : Int) (ti : Tok) (nn : Nat) (news : Led), ThingIn w news a x t → ThingIn w news b y u → (ar, listOf #[.ref b, .int i ti] nn) ∈ news → x.length ≤ 20000 → y.length ≤ 20000 → -20000 ≤ i → i ≤ 20000 →
  Fn K w 360 3 [.none, .ref a, .ref ar] news fun r n _ => (∃ t, r = optV (idxA x y i) t) ∧ n = news
end Mine
end
noncomputable section
open PySem PySem.W PyProof.Rows PySem.Spec PySem.Calls
namespace Mine
def Index1S (K : Params → Frag) : Prop := ∀ (w : World) (a b ar : Addr) (x y : Str) (t u : Tok) (nn : Nat) (news : Led), ThingIn w news a x t → ThingIn w news b y u → (ar, listOf #[.ref b] nn) ∈ news → x.length ≤ 20000 → y.length ≤ 20000 →
  Fn K w 360 3 [.none, .ref a, .ref ar] news fun r n _ => (∃ t, r = optV (idxA x y 0) t) ∧ n = news
end Mine
end
noncomputable section
open PySem PySem.W PyProof.Rows PySem.Spec PySem.Calls
namespace Mine
def RindexS (K : Params → Frag) : Prop := ∀ (w : World) (a b ar : Addr) (x y : Str) (t u : Tok) (i : Int) (ti : Tok) (nn : Nat) (news : Led), ThingIn w news a x t → ThingIn w news b y u → (ar, listOf #[.ref b, .int i ti] nn) ∈ news → x.length ≤ 20000 → y.length ≤ 20000 → -20000 ≤ i → i ≤ 20000 →
  Fn K w 367 3 [.none, .ref a, .ref ar] news fun r n _ => (∃ t, r = optV (ridxA x y i) t) ∧ n = news
end Mine
end
noncomputable section
open PySem PySem.W PyProof.Rows PySem.Spec PySem.Calls
namespace Mine
def Rindex1S (K : Params → Frag) : Prop := ∀ (w : World) (a b ar : Addr) (x y : Str) (t u : Tok) (nn : Nat) (news : Led), ThingIn w news a x t → ThingIn w news b y u → (ar, listOf #[.ref b] nn) ∈ news → x.length ≤ 20000 → y.length ≤ 20000 →
  Fn K w 367 3 [.none, .ref a, .ref ar] news fun r n _ => (∃ t, r = optV (ridxA x y x.length) t) ∧ n = news
end Mine
end
noncomputable section
open PySem PySem.W PyProof.Rows PySem.Spec PySem.Calls
namespace Mine
/-- the text with another put in at a place -/
def insT (x y : Str) (i : Int) : Str := Txt.slice x none (some (if 0 ≤ i then i else x.length + i + 1)) ++ y ++ Txt.slice x (some (if 0 ≤ i then i else x.length + i + 1)) none
theorem insT_1 {x y : Str} {i : Int} (h : 0 ≤ i) : insT x y i = Txt.slice x none (some i) ++ y ++ Txt.slice x (some i) none := by unfold insT; rw [if_pos h]
theorem insT_2 {x y : Str} {i : Int} (h : ¬ 0 ≤ i) : insT x y i = Txt.slice x none (some (x.length + i + 1)) ++ y ++ Txt.slice x (some (x.length + i + 1)) none := by unfold insT; rw [if_neg h]
def InsertS (K : Params → Frag) : Prop := ∀ (w : World) (a b dx f ar : Addr) (x y : Str) (t1 t2 t3 t4 t5 t6 t7 t0 t u : Tok) (i : Int) (ti : Tok) (nn : Nat) (news : Led), ThingIn w news b y u → (ar, listOf #[.int i ti, .ref b] nn) ∈ news → x.length ≤ 5000 → y.length ≤ 5000 → -(x.length : Int) - 1 ≤ i → i ≤ x.length → a ≠ dx → (∀ p ∈ news, p.1 ≠ dx) → 
  Fn K w 353 3 [.none, .ref a, .ref ar] ((a, instObj 62 dx) :: (dx, thingD w t1 t2 t3 t4 t5 t6 t7 t0 f x t 7) :: news) fun r n _ => r = .ref a ∧ ∃ t', n = (a, instObj 62 dx) :: (dx, thingD w t1 t2 t3 t4 t5 t6 t7 t0 f (insT x y i) t' 7) :: news
end Mine
end
noncomputable section
open PySem PySem.W PyProof.Rows PySem.Spec PySem.Calls
namespace Mine
structure SprC where
  at_ : Nat
  t : Tok
  vs : List Value
  cap : Nat
/-- where the while of spread_letters stands -/
def SprP (x : Str) (meant : List Nat) (c : SprC) : Prop := ∃ dn m, Chs c.vs dn ∧ Spr (x.cps.toList.drop c.at_) m ∧ dn ++ m = meant ∧ c.at_ ≤ x.length
theorem SprP.len {x : Str} {meant : List Nat} {c : SprC} (h : SprP x meant c) (hm : meant.length ≤ 100000) : c.vs.length ≤ 100000 := by
  obtain ⟨dn, m, h1, _, h3, _⟩ := h
  have := h1.length; rw [← h3, List.length_append] at hm; (first | lia | omega)
theorem SprP.a {x : Str} {meant : List Nat} {i cap cap' : Nat} {t t' u : Tok} {vs : List Value} (hP : SprP x meant ⟨i, t, vs, cap⟩) (h : (i : Int) < x.length) (he : (Txt.item x (i : Int) == Str.ofString "\\") = true) (h1 : (i : Int) + 1 < x.length) :
    SprP x meant ⟨i + 2, t', vs ++ [.str (Txt.item x ((i : Int) + 1)) u], cap'⟩ := by
  obtain ⟨dn, m, h4, h2, h3, _⟩ := hP
  obtain ⟨c, m', e, rfl, r⟩ := spr_a' h2 h he h1
  have e' := item_L x e
  rw [show ((i + 1 : Nat) : Int) = (i : Int) + 1 by (first | lia | omega)] at e'
  refine ⟨dn ++ [c], m', ?_, r, by rw [List.append_assoc]; exact h3, by dsimp only; (first | lia | omega)⟩
  dsimp only; rw [e']; exact h4.snoc
theorem SprP.c {x : Str} {meant : List Nat} {i cap cap' : Nat} {t t' u : Tok} {vs : List Value} (hP : SprP x meant ⟨i, t, vs, cap⟩) (h : (i : Int) < x.length) (hn : ¬ ((Txt.item x (i : Int) == Str.ofString "\\") = true ∧ (i : Int) + 1 < x.length))
    (hd : ¬ ((Txt.slice x (some ((i : Int) + 1)) (some ((i : Int) + 2)) == Str.ofString "-") = true ∧ (i : Int) + 2 < x.length)) :
    SprP x meant ⟨i + 1, t', vs ++ [.str (Txt.item x (i : Int)) u], cap'⟩ := by
  obtain ⟨dn, m, h4, h2, h3, _⟩ := hP
  obtain ⟨c, m', e, rfl, r⟩ := spr_c' h2 h hn hd
  refine ⟨dn ++ [c], m', ?_, r, by rw [List.append_assoc]; exact h3, by dsimp only; (first | lia | omega)⟩
  dsimp only; rw [item_L x e]; exact h4.snoc
theorem item_at {x : Str} {i : Nat} (h : (i : Int) < x.length) : ∃ c, (Mine.L x)[i]? = some c ∧ Txt.item x (i : Int) = ch c := by
  have h' : i < (Mine.L x).length := by rw [L_len]; (first | lia | omega)
  exact ⟨_, List.getElem?_eq_getElem h', item_L x (List.getElem?_eq_getElem h')⟩
theorem SprP.b {x : Str} {meant : List Nat} {i cap : Nat} {t : Tok} {vs : List Value} (hP : SprP x meant ⟨i, t, vs, cap⟩) (h : (i : Int) < x.length) (hn : ¬ ((Txt.item x (i : Int) == Str.ofString "\\") = true ∧ (i : Int) + 1 < x.length))
    (hd : (Txt.slice x (some ((i : Int) + 1)) (some ((i : Int) + 2)) == Str.ofString "-") = true) (h2 : (i : Int) + 2 < x.length) :
    ∃ a b, (Txt.item x (i : Int)).cps.getD 0 0 = a ∧ b ∈ meant ∧ (Txt.item x ((i : Int) + 2)).cps.getD 0 0 = b ∧ a ≤ b ∧ b ≤ a + 20000 ∧ b + 1 - a ≤ meant.length ∧ ∀ us (t' : Tok) (cap' : Nat), Chs us (rangeL a b) → SprP x meant ⟨i + 3, t', vs ++ us, cap'⟩ := by
  obtain ⟨dn, m, h4, h5, h3, _⟩ := hP
  obtain ⟨a, b, m', e1, e2, l1, l2, rfl, r⟩ := spr_b' h5 h hn hd h2
  have e2' := item_L x e2
  rw [show ((i + 2 : Nat) : Int) = (i : Int) + 2 by (first | lia | omega)] at e2'
  refine ⟨a, b, by rw [item_L x e1]; rfl, by rw [← h3]; refine List.mem_append_right _ (List.mem_append_left _ (List.mem_map.mpr ⟨b - a, List.mem_range.mpr (by (first | lia | omega)), by (first | lia | omega)⟩)), by rw [e2']; rfl, l1, l2, ?_, fun us t' cap' hu => ⟨dn ++ rangeL a b, m', h4.app hu, r, by rw [List.append_assoc]; exact h3, by dsimp only; (first | lia | omega)⟩⟩
  rw [← h3]; simp only [List.length_append, rangeL, List.length_map, List.length_range]; (first | lia | omega)
theorem SprP.fin {x : Str} {meant : List Nat} {i cap : Nat} {t : Tok} {vs : List Value} (hP : SprP x meant ⟨i, t, vs, cap⟩) (h : ¬ (i : Int) < x.length) : Chs vs meant := by
  obtain ⟨dn, m, h4, h2, h3, _⟩ := hP
  dsimp only at h4 h2
  rw [List.drop_eq_nil_of_le (by have := L_len x; unfold Mine.L at this; (first | lia | omega))] at h2
  have : m = [] := by rcases h2.step with ⟨_, h⟩ | ⟨_, _, _, h, _⟩ | ⟨_, _, _, _, h, _⟩ | ⟨_, _, _, h, _⟩ <;> first | exact h | cases h
  rw [this, List.append_nil] at h3
  exact h3 ▸ h4
def SpreadS (K : Params → Frag) : Prop := ∀ (w : World) (x : Str) (t : Tok) (meant : List Nat) (news : Led), Spr x.cps.toList meant → x.length ≤ 1000 → meant.length ≤ 100000 → (∀ c ∈ meant, c < 50000) →
  Fn K w 372 1 [.none, .str x t] news fun r n _ => ∃ a vs k, r = .ref a ∧ n = (a, listOf vs.toArray k) :: news ∧ Chs vs meant ∧ ∀ p ∈ news, p.1 < a
end Mine
end
noncomputable section
open PySem PySem.W PyProof.Rows PySem.Spec PySem.Calls
set_option Elab.async false
set_option maxRecDepth 100000
namespace Mine
section
variable {σ : Type} {prog : Program} {w : World} {A : Around} {E : Value → Shared → Prop} {s : Shared} {env : Env} {h₀ : Heap} {x : Str} {target : Expr} {body : List Stmt} {Q : Flow → Shared → Prop} {stored : List Str} {m₀ : Str → Option Value}
/-- a for with any target over an iterator whose written objects are wr; cst stays as it is -/
theorem turns_any {I : Addr} {fp wr : List Addr} {n : Nat} {P Md : Nat → Value → Heap → Prop} {St : Nat → Heap → Prop} {news cst : Led} (J : Nat → (Str → Option Value) → Led → Prop)
    (W : KTurns prog w A target I fp wr n P Md St) (hob : ∀ i h, St i h → ∀ b ∈ wr, ∃ o, h.get? b = some o) (hfw : ∀ a ∈ fp, a ∈ wr ∨ ∃ o, (a, o) ∈ cst) (hcst : ∀ i m nx, J i m nx → ∀ p ∈ cst, p ∈ nx)
    (hLf : env.locals ∉ fp) (hwr : ∀ b ∈ wr, h₀.get? b = none) (hnw : ∀ p ∈ news, p.1 ∉ wr) (hst : St 0 s.heap)
    (F : Fr h₀ env.locals s.heap m₀) (N : News h₀ env.locals s.heap news) (hj : J 0 m₀ news)
    (turn : ∀ i v m₁ nx h tk own, i < n → P i v h → J i m₁ nx → OwnOff own (nx.map (·.1)) → Fr h₀ env.locals h m₁ → News h₀ env.locals h (nx ++ own) →
      wpAny (model prog w) A (assign target env v) (fun _ s₃ => wpAny (model prog w) A (execs body env) (InvPostG h₀ env.locals (J (i + 1)) own { s with heap := h, toks := tk } Q) E s₃) E { s with heap := h, toks := tk })
    (done : ∀ m₁ nx h tk, J n m₁ nx → Fr h₀ env.locals h m₁ → News h₀ env.locals h nx → Q .next { s with heap := h, toks := tk }) :
    TurnsAt prog w A h₀ env target body Q E (.ref I) s := by
  classical
  refine ⟨I, fp, wr, n, P, Md, St, m₀, news, J, rfl, W, hLf, hwr, hnw, hst, F, N, hj, ?_, fun h' tk m' news' F' N' _ hJ => done m' news' h' tk hJ F' N'⟩
  intro i v m₁ news₁ h₁ tk₁ own hi hP hJ hoff hown hget hfp hst' F₁ N₁
  have hsep : OwnOff (own.filter fun p => decide (p.1 ∈ wr)) (news₁.map (·.1)) := by
    intro p hp b hb e
    obtain ⟨q, hq, rfl⟩ := List.mem_map.mp hb
    have h1 : p.1 ∈ wr := by simpa using (List.mem_filter.mp hp).2
    exact hoff q hq (e ▸ h1)
  have N₂ : News h₀ env.locals h₁ (news₁ ++ own.filter fun p => decide (p.1 ∈ wr)) := fun p hp => N₁ p ((List.mem_append.mp hp).elim (fun h => List.mem_append.mpr (.inr h)) fun h => List.mem_append.mpr (.inl ((List.mem_filter.mp h).1)))
  refine wpAny_mono (turn i v m₁ news₁ h₁ tk₁ _ hi hP hJ hsep F₁ N₂) (fun _ s₃ q => wpAny_mono q (fun f s₂ p => ?_) fun _ _ e => e) fun _ _ e => e
  have fin : InvEndG h₀ env.locals (J (i + 1)) (own.filter fun p => decide (p.1 ∈ wr)) { s with heap := h₁, toks := tk₁ } s₂ →
      LoopStepU h₀ env.locals wr own (J (i + 1)) { s with heap := h₁, toks := tk₁ } .next s₂ := by
    rintro ⟨h', tk, m', news', nx, e, F', N', hn, ho, ha, hm⟩
    refine ⟨rfl, h', tk, m', nx, e, F', fun p hp => ?_, fun p hp hq => ?_, hm⟩
    · rcases List.mem_append.mp hp with h | h
      · by_cases hI : p.1 ∈ wr
        · exact N' p (ho p (List.mem_filter.mpr ⟨h, by simpa using hI⟩))
        · obtain ⟨o, hc⟩ := (hfw _ (hown p h)).resolve_left hI
          have h2 : h₁.get? p.1 = some p.2 := hget p h
          have h3 := (N₁ _ (List.mem_append.mpr (.inr (hcst _ _ _ hJ _ hc)))).1
          rw [h2] at h3
          have h4 : (p.1, o) = p := Prod.ext rfl (Option.some.inj h3).symm
          rw [h4] at hc
          exact N' p (hn p (hcst _ _ _ hm _ hc))
      · exact N' p (hn p h)
    · obtain ⟨o, ho'⟩ := hob _ _ hst' _ hq
      exact ha _ (List.mem_filter.mpr ⟨hfp _ (W.sub _ hq) (hwr _ hq) o ho', by simpa using hq⟩) p.1 (List.mem_map.mpr ⟨p, hp, rfl⟩) rfl
  cases f with
  | ret v => exact .ret p
  | brk => exact .brk p
  | next => exact .next (fin p)
  | cont => exact .cont (fin p)

/-- the same with the frame's names in a state -/
theorem for_tup {I : Addr} {fp wr : List Addr} {n : Nat} {P Md : Nat → Value → Heap → Prop} {St : Nat → Heap → Prop} {news cst : Led} (ps : σ → List (Str × Value)) (x : Str) (stored : List Str) (J : Nat → σ → Led → Prop) (c₀ : σ)
    (W : KTurns prog w A target I fp wr n P Md St) (hob : ∀ i h, St i h → ∀ b ∈ wr, ∃ o, h.get? b = some o) (hfw : ∀ a ∈ fp, a ∈ wr ∨ ∃ o, (a, o) ∈ cst) (hcst : ∀ i c nx, J i c nx → ∀ p ∈ cst, p ∈ nx)
    (hLf : env.locals ∉ fp) (hwr : ∀ b ∈ wr, h₀.get? b = none) (hnw : ∀ p ∈ news, p.1 ∉ wr) (hst : St 0 s.heap)
    (F : Fr h₀ env.locals s.heap m₀) (N : News h₀ env.locals s.heap news) (hk : ∀ p ∈ ps c₀, m₀ p.1 = some p.2) (hj : J 0 c₀ news)
    (turn : ∀ i v c nx (u : Str → Option Value) h tk own, i < n → P i v h → J i c nx → OwnOff own (nx.map (·.1)) → Fr h₀ env.locals h (mapT x stored m₀ u (ps c) (u x)) → News h₀ env.locals h (nx ++ own) →
      wpAny (model prog w) A (assign target env v) (fun _ s₃ => wpAny (model prog w) A (execs body env) (TurnP h₀ env.locals x ps stored m₀ (J (i + 1)) own { s with heap := h, toks := tk } Q) E s₃) E { s with heap := h, toks := tk })
    (done : ∀ c nx (u : Str → Option Value) h tk, J n c nx → Fr h₀ env.locals h (mapT x stored m₀ u (ps c) (u x)) → News h₀ env.locals h nx → Q .next { s with heap := h, toks := tk }) :
    TurnsAt prog w A h₀ env target body Q E (.ref I) s := by
  refine turns_any (cst := cst) (fun i m nx => ∃ c, (∀ p ∈ ps c, m p.1 = some p.2) ∧ (∀ z, z ≠ x → (∀ p ∈ ps c, z ≠ p.1) → stored.contains z = false → m z = m₀ z) ∧ J i c nx) W hob hfw (fun i m nx ⟨c, _, _, hJ⟩ => hcst i c nx hJ) hLf hwr hnw hst F N ⟨c₀, hk, fun _ _ _ _ => rfl, hj⟩ ?_ ?_
  · rintro i v m₁ nx h tk own hi hP ⟨c, h1, h2, hJ⟩ hoff F₁ N₁
    refine wpAny_mono (turn i v c nx m₁ h tk own hi hP hJ hoff (fr_mapT h1 h2 F₁) N₁) (fun _ s₃ q => wpAny_mono q (fun f s₂ p => ?_) fun _ _ e => e) fun _ _ e => e
    cases f with
    | ret v => exact p
    | brk => exact p
    | next => exact NextP.out p
    | cont => exact NextP.out p
  · rintro m₁ nx h tk ⟨c, h1, h2, hJ⟩ F₁ N₁
    exact done c nx m₁ h tk hJ (fr_mapT h1 h2 F₁) N₁

/-- a for with a tuple of names over a list of the ledger -/
theorem for_tupList {elts : List Expr} {k : Nat} {pos : Pos} {l : Addr} {vs : List Value} {nn : Nat} {news : Led} (ps : σ → List (Str × Value)) (x : Str) (stored : List Str) (J : Nat → σ → Led → Prop) (c₀ : σ) (hh : A.handled = none) (hv : ∀ v ∈ vs, ∃ T, v = .ref T)
    (hl : (l, listOf vs.toArray nn) ∈ news) (F : Fr h₀ env.locals s.heap m₀) (N : News h₀ env.locals s.heap news) (hk : ∀ p ∈ ps c₀, m₀ p.1 = some p.2) (hj : J 0 c₀ news)
    (turn : ∀ i v c nx (u : Str → Option Value) h tk own, vs[i]? = some v → (l, listOf vs.toArray nn) ∈ nx → J i c nx → OwnOff own (nx.map (·.1)) → Fr h₀ env.locals h (mapT x stored m₀ u (ps c) (u x)) → News h₀ env.locals h (nx ++ own) →
      wpAny (model prog w) A (assign (.Tuple elts k pos) env v) (fun _ s₃ => wpAny (model prog w) A (execs body env) (TurnP h₀ env.locals x ps stored m₀ (fun c nx => (l, listOf vs.toArray nn) ∈ nx ∧ J (i + 1) c nx) own { s with heap := h, toks := tk } Q) E s₃) E { s with heap := h, toks := tk })
    (done : ∀ c nx (u : Str → Option Value) h tk, J vs.length c nx → Fr h₀ env.locals h (mapT x stored m₀ u (ps c) (u x)) → News h₀ env.locals h nx → Q .next { s with heap := h, toks := tk }) :
    wpAny (model prog w) A (pyIter (.ref l)) (fun it s₂ => TurnsAt prog w A h₀ env (.Tuple elts k pos) body Q E it s₂) E s := by
  have hol : s.heap.get? l = some (listOf vs.toArray nn) := (N _ hl).1
  have hls : s.heap.IsList l vs.toArray := ⟨_, hol, rfl, nn, rfl⟩
  have hne : l ≠ s.heap.objs.size := Nat.ne_of_lt (Heap.lt_size hol)
  refine wpAny_pyIter_list hls ?_
  have W := Walks.list (prog := prog) (w := w) hh s.heap.objs.size l hne vs.toArray
  have W' : KTurns prog w A (.Tuple elts k pos) s.heap.objs.size [s.heap.objs.size, l] [s.heap.objs.size] vs.toArray.size (fun i v _ => vs.toArray[i]? = some v) (fun i v h => vs.toArray[i]? = some v ∧ h.IsListIter s.heap.objs.size l (i + 1) ∧ h.IsList l vs.toArray) (fun i h => h.IsListIter s.heap.objs.size l i ∧ h.IsList l vs.toArray) :=
    { sub := W.sub, frame := W.frame, done := W.done
      item := fun i s Q E hi st hQ => W.item i s Q E hi st fun v h' tk hP st' hk => hQ v h' tk ⟨hP, st'⟩ hk
      go := fun i v s Q E hm hQ => by
        have hm1 := hm.1
        simp only [List.getElem?_toArray] at hm1
        obtain ⟨T, rfl⟩ := hv v (List.mem_of_getElem? hm1)
        exact wpAny_letOwnedTupleGo_listiter hm.2.1 (hQ s.heap hm.1 hm.2 fun _ _ _ e => e) }
  refine for_tup (s := { s with heap := s.heap.push _ }) (cst := [(l, listOf vs.toArray nn)]) ps x stored (fun i c nx => (l, listOf vs.toArray nn) ∈ nx ∧ J i c nx) c₀ W'
    (fun i h st b hb => by rw [List.mem_singleton.mp hb]; obtain ⟨⟨o, ho, _⟩, _⟩ := st; exact ⟨o, ho⟩) (fun a ha => ?_) (fun i c nx hJ p hp => by rw [List.mem_singleton.mp hp]; exact hJ.1)
    (fun hm => ?_) (fun b hb => by rw [List.mem_singleton.mp hb]; exact next_is_new F) (fun p hp hI => absurd (Heap.lt_size (N p hp).1) ((List.mem_singleton.mp hI) ▸ Nat.lt_irrefl _)) ⟨⟨_, Heap.get?_push_size _ rfl, rfl, rfl⟩, hls.at fun o e => Heap.get?_push_of_some _ e⟩
    (F.push _) (fun p hp => ⟨Heap.get?_push_of_some _ (N p hp).1, (N p hp).2⟩) hk ⟨hl, hj⟩
    (fun i v c nx u h tk own hi hP hJ hoff F₁ N₁ => turn i v c nx u h tk own (by simpa using hP) hJ.1 hJ.2 hoff F₁ N₁) (fun c nx u h tk hJ F₁ N₁ => done c nx u h tk (by simpa using hJ.2) F₁ N₁)
  · rcases List.mem_cons.mp ha with rfl | ha
    · exact .inl (List.mem_singleton.mpr rfl)
    · rw [List.mem_singleton.mp ha]; exact .inr ⟨_, List.mem_singleton.mpr rfl⟩
  · rcases List.mem_cons.mp hm with e | hm
    · exact absurd F.ns.lt (e ▸ Nat.lt_irrefl _)
    · exact (N _ hl).2.1 ((List.mem_singleton.mp hm).symm)
end
end Mine
namespace Mine
theorem ownoff_new {own nx nx' : Led} (h : OwnOff own (nx.map (·.1))) (h' : ∀ q ∈ nx', q.1 ∈ nx.map (·.1) ∨ ∀ p ∈ own, p.1 < q.1) : OwnOff own (nx'.map (·.1)) := by
  intro p hp b hb
  obtain ⟨q, hq, rfl⟩ := List.mem_map.mp hb
  rcases h' q hq with h1 | h1
  · exact h p hp _ h1
  · exact Nat.ne_of_lt (h1 p hp)
theorem lt_of_allLt {x : Addr} {l : Led} (h : AllLt x l) : ∀ p ∈ l, p.1 < x := by
  induction l with
  | nil => intro p hp; cases hp
  | cons q r ih =>
    intro p hp
    rcases List.mem_cons.mp hp with rfl | hp
    · exact h.1
    · exact ih h.2 p hp
end Mine
namespace Mine
theorem off_app {l l' : Led} {a : Addr} (h : ∀ p ∈ l, p.1 ≠ a) (h' : ∀ p ∈ l', p.1 ≠ a) : ∀ p ∈ l ++ l', p.1 ≠ a := fun p hp => (List.mem_append.mp hp).elim (h p) (h' p)
def Fresh (ex news : Led) : Prop := ∀ p ∈ ex, ∀ q ∈ news, q.1 < p.1
theorem ne_fresh {ex news : Led} {a : Addr} (h : Fresh ex news) (hm : a ∈ news.map (·.1)) : ∀ p ∈ ex, p.1 ≠ a := fun p hp => by
  obtain ⟨q, hq, rfl⟩ := List.mem_map.mp hm
  exact Nat.ne_of_gt (h p hp q hq)
theorem ne_fresh2 {ex news : Led} {a : Addr} {o : Obj} (h : Fresh ex news) (hm : (a, o) ∈ news) : ∀ p ∈ ex, p.1 ≠ a := fun p hp => Nat.ne_of_gt (h p hp _ hm)
end Mine

end
noncomputable section
open PySem PySem.W PyProof.Rows PySem.Spec PySem.Calls
namespace Mine
abbrev tupO (b : Bool) (K : Addr) : Obj := { cls := .type "tuple", data := .seq #[.bool b, .ref K] }
/-- the rows of a list of sets: whether it means all others, its signs -/
inductive Rows (n : Led) : List Value → List (Bool × List Nat) → Prop
  | nil : Rows n [] []
  | cons {T K : Addr} {ws : List Value} {k : Nat} {b : Bool} {m : List Nat} {vs : List Value} {rs : List (Bool × List Nat)} : (T, tupO b K) ∈ n → (K, listOf ws.toArray k) ∈ n → Chs ws m → Rows n vs rs → Rows n (.ref T :: vs) ((b, m) :: rs)
theorem Rows.get {n : Led} {vs : List Value} {rs : List (Bool × List Nat)} (h : Rows n vs rs) {i : Nat} {v : Value} (e : vs[i]? = some v) : ∃ T K ws k b m, v = .ref T ∧ rs[i]? = some (b, m) ∧ (T, tupO b K) ∈ n ∧ (K, listOf ws.toArray k) ∈ n ∧ Chs ws m := by
  induction h generalizing i with
  | nil => simp at e
  | cons h1 h2 h3 _ ih => cases i with
    | zero => simp only [List.getElem?_cons_zero, Option.some.injEq] at e; exact ⟨_, _, _, _, _, _, e.symm, rfl, h1, h2, h3⟩
    | succ i => simp only [List.getElem?_cons_succ] at e ⊢; exact ih e
theorem Rows.refs {n : Led} {vs : List Value} {rs : List (Bool × List Nat)} (h : Rows n vs rs) : ∀ v ∈ vs, ∃ T, v = Value.ref T := by
  induction h with
  | nil => intro v hv; cases hv
  | cons _ _ _ _ ih => intro v hv; rcases List.mem_cons.mp hv with rfl | hv; exact ⟨_, rfl⟩; exact ih v hv
theorem Rows.mono {n n' : Led} {vs : List Value} {rs : List (Bool × List Nat)} (h : Rows n vs rs) (hs : ∀ p ∈ n, p ∈ n') : Rows n' vs rs := by
  induction h with
  | nil => exact .nil
  | cons h1 h2 h3 _ ih => exact .cons (hs _ h1) (hs _ h2) h3 ih
theorem Rows.length {n : Led} {vs : List Value} {rs : List (Bool × List Nat)} (h : Rows n vs rs) : vs.length = rs.length := by
  induction h with
  | nil => rfl
  | cons _ _ _ _ ih => rw [List.length_cons, List.length_cons, ih]
def SetsIn (n : Led) (A : Addr) (rs : List (Bool × List Nat)) : Prop := ∃ vs k, (A, listOf vs.toArray k) ∈ n ∧ Rows n vs rs
theorem SetsIn.mono {n n' : Led} {A : Addr} {rs : List (Bool × List Nat)} (h : SetsIn n A rs) (hs : ∀ p ∈ n, p ∈ n') : SetsIn n' A rs := by
  obtain ⟨vs, k, h1, h2⟩ := h; exact ⟨vs, k, hs _ h1, h2.mono hs⟩
def isIn (rs : List (Bool × List Nat)) (c : Nat) : Bool := rs.all fun r => !(r.2.contains c == r.1)
theorem any_ch (m : List Nat) (c : Nat) : (m.map ch).any (· == ch c) = m.contains c := by
  induction m with
  | nil => rfl
  | cons a m ih => rw [List.map_cons, List.any_cons, ih, ch_inj, List.contains_cons]; congr 1; rw [Bool.beq_comm]
theorem isIn_false {rs : List (Bool × List Nat)} {c i : Nat} {b : Bool} {m : List Nat} (h : rs[i]? = some (b, m)) (e : (m.contains c == b) = true) : isIn rs c = false := by
  unfold isIn
  rw [List.all_eq_false]
  exact ⟨_, List.mem_of_getElem? h, by rw [show ((b, m).2.contains c == (b, m).1) = true from e]; decide⟩
theorem isIn_true {rs : List (Bool × List Nat)} {c : Nat} (h : ∀ r ∈ rs, (r.2.contains c == r.1) = false) : isIn rs c = true := by
  unfold isIn
  rw [List.all_eq_true]
  intro r hr; rw [h r hr]; rfl
def IsInS (K : Params → Frag) : Prop := ∀ (w : World) (A : Addr) (rs : List (Bool × List Nat)) (c : Nat) (t : Tok) (news : Led), SetsIn news A rs →
  Fn K w 384 1 [.ref A, .str (ch c) t] news fun r n _ => r = .bool (isIn rs c) ∧ n = news
end Mine
end
noncomputable section
open PySem PySem.W PyProof.Rows PySem.Spec PySem.Calls
namespace Mine
/-- a told set's text: whether it means all others, its signs -/
def TelL (l : List Nat) (b : Bool) (m : List Nat) : Prop := (b = true ∧ ∃ r, l = 94 :: r ∧ r ≠ [] ∧ Spr r m) ∨ (b = false ∧ (∀ r, l = 94 :: r → r = []) ∧ Spr l m)
def TelX (x : Str) (r : Bool × List Nat) : Prop := x.length ≤ 1000 ∧ TelL x.cps.toList r.1 r.2 ∧ r.2.length ≤ 100000 ∧ ∀ c ∈ r.2, c < 50000
/-- the arguments: texts that tell sets -/
inductive Args (w : World) (n : Led) : List Value → List (Bool × List Nat) → Prop
  | nil : Args w n [] []
  | cons {a : Addr} {x : Str} {t : Tok} {r : Bool × List Nat} {vs : List Value} {rs : List (Bool × List Nat)} : ThingIn w n a x t → TelX x r → Args w n vs rs → Args w n (.ref a :: vs) (r :: rs)
theorem Args.get {w : World} {n : Led} {vs : List Value} {rs : List (Bool × List Nat)} (h : Args w n vs rs) {i : Nat} {v : Value} (e : vs[i]? = some v) : ∃ a x t r, v = .ref a ∧ rs[i]? = some r ∧ ThingIn w n a x t ∧ TelX x r := by
  induction h generalizing i with
  | nil => simp at e
  | cons h1 h2 _ ih => cases i with
    | zero => simp only [List.getElem?_cons_zero, Option.some.injEq] at e; exact ⟨_, _, _, _, e.symm, rfl, h1, h2⟩
    | succ i => simp only [List.getElem?_cons_succ] at e ⊢; exact ih e
theorem Args.mono {w : World} {n n' : Led} {vs : List Value} {rs : List (Bool × List Nat)} (h : Args w n vs rs) (hs : ∀ p ∈ n, p ∈ n') : Args w n' vs rs := by
  induction h with
  | nil => exact .nil
  | cons h1 h2 _ ih => exact .cons (h1.mono hs) h2 ih
theorem Args.length {w : World} {n : Led} {vs : List Value} {rs : List (Bool × List Nat)} (h : Args w n vs rs) : vs.length = rs.length := by
  induction h with
  | nil => rfl
  | cons _ _ _ ih => rw [List.length_cons, List.length_cons, ih]
/-- the texts told -/
inductive Tolds : List Value → List (Bool × List Nat) → Prop
  | nil : Tolds [] []
  | cons {x : Str} {t : Tok} {r : Bool × List Nat} {vs : List Value} {rs : List (Bool × List Nat)} : TelX x r → Tolds vs rs → Tolds (.str x t :: vs) (r :: rs)
theorem Tolds.snoc {vs : List Value} {rs : List (Bool × List Nat)} {x : Str} {t : Tok} {r : Bool × List Nat} (h : Tolds vs rs) (k : TelX x r) : Tolds (vs ++ [.str x t]) (rs ++ [r]) := by
  induction h with
  | nil => exact .cons k .nil
  | cons h1 _ ih => exact .cons h1 ih
theorem Tolds.get {vs : List Value} {rs : List (Bool × List Nat)} (h : Tolds vs rs) {i : Nat} {v : Value} (e : vs[i]? = some v) : ∃ x t r, v = .str x t ∧ rs[i]? = some r ∧ TelX x r := by
  induction h generalizing i with
  | nil => simp at e
  | cons h1 _ ih => cases i with
    | zero => simp only [List.getElem?_cons_zero, Option.some.injEq] at e; exact ⟨_, _, _, e.symm, rfl, h1⟩
    | succ i => simp only [List.getElem?_cons_succ] at e ⊢; exact ih e
theorem Tolds.length {vs : List Value} {rs : List (Bool × List Nat)} (h : Tolds vs rs) : vs.length = rs.length := by
  induction h with
  | nil => rfl
  | cons _ _ ih => rw [List.length_cons, List.length_cons, ih]
theorem Rows.snoc {n : Led} {vs : List Value} {rs : List (Bool × List Nat)} (h : Rows n vs rs) {T K : Addr} {ws : List Value} {k : Nat} {b : Bool} {m : List Nat} (h1 : (T, tupO b K) ∈ n) (h2 : (K, listOf ws.toArray k) ∈ n) (h3 : Chs ws m) : Rows n (vs ++ [.ref T]) (rs ++ [(b, m)]) := by
  induction h with
  | nil => exact .cons h1 h2 h3 .nil
  | cons a b c _ ih => exact .cons a b c ih
structure SofC where
  fs : List Value
  cap : Nat
  ex : Led
def SofJ (FA : Addr) (B : Led) (rs : List (Bool × List Nat)) (i : Nat) (c : SofC) (nx : Led) : Prop := nx = (FA, listOf c.fs.toArray c.cap) :: (B ++ c.ex) ∧ Rows c.ex c.fs (rs.take i) ∧ (∀ p ∈ B ++ c.ex, p.1 ≠ FA) ∧ Fresh c.ex B
theorem SofJ.start {FA : Addr} {B : Led} {rs : List (Bool × List Nat)} (h : ∀ p ∈ B, p.1 ≠ FA) : SofJ FA B rs 0 ⟨[], 0, []⟩ ((FA, listOf #[] 0) :: B) := ⟨by simp, .nil, by simpa using h, by intro p hp; cases hp⟩
theorem allLt_left {x : Addr} {a b : Led} (h : AllLt x (a ++ b)) : AllLt x a := by
  induction a with
  | nil => trivial
  | cons p r ih => exact ⟨h.1, ih h.2⟩
theorem SofJ.step {FA : Addr} {B : Led} {rs : List (Bool × List Nat)} {i : Nat} {fs : List Value} {cap : Nat} {ex : Led} {T K : Addr} {ws : List Value} {k : Nat} {b b' : Bool} {m : List Nat} (h : Rows ex fs (rs.take i)) (off : ∀ p ∈ B ++ ex, p.1 ≠ FA) (hr : rs[i]? = some (b, m)) (hC : Chs ws m) (h1 : FA < K) (h2 : FA < T) (hb : b' = b) (hf : Fresh ex B) (h3 : ∀ q ∈ B, q.1 < K) (h4 : ∀ q ∈ B, q.1 < T) :
    SofJ FA B rs (i + 1) ⟨fs ++ [Value.ref T], cap + 1, (T, tupO b' K) :: (K, listOf ws.toArray k) :: ex⟩ ((FA, listOf (fs ++ [Value.ref T]).toArray (cap + 1)) :: (B ++ (T, tupO b' K) :: (K, listOf ws.toArray k) :: ex)) := by
  subst hb
  refine ⟨rfl, ?_, ?_, ?_⟩
  rotate_left 2
  · intro p hp q hq
    rcases List.mem_cons.mp hp with rfl | hp
    · exact h4 q hq
    · rcases List.mem_cons.mp hp with rfl | hp
      · exact h3 q hq
      · exact hf p hp q hq
  · rw [List.take_add_one, hr]
    exact (h.mono fun p hp => .tail _ (.tail _ hp)).snoc (.head _) (.tail _ (.head _)) hC
  · intro p hp
    rcases List.mem_append.mp hp with hp | hp
    · exact off p (List.mem_append_left _ hp)
    · rcases List.mem_cons.mp hp with rfl | hp
      · exact Nat.ne_of_gt h2
      · rcases List.mem_cons.mp hp with rfl | hp
        · exact Nat.ne_of_gt h1
        · exact off p (List.mem_append_right _ hp)
theorem telx_cases {x : Str} {b : Bool} {m : List Nat} (h : TelX x (b, m)) : x.length ≤ 1000 ∧ m.length ≤ 100000 ∧ (∀ c ∈ m, c < 50000) ∧
    ((b = true ∧ (1 : Int) < x.length ∧ (Txt.item x 0 == Str.ofString "^") = true ∧ Spr (Txt.slice x (some 1) none).cps.toList m) ∨
     (b = false ∧ Spr x.cps.toList m ∧ (¬ (1 : Int) < x.length ∨ (1 : Int) < x.length ∧ (Txt.item x 0 == Str.ofString "^") = false))) := by
  obtain ⟨h1, h2, h3, h4⟩ := h
  have l1 := L_len x
  have lit : Str.ofString "^" = ch 94 := by decide +kernel
  refine ⟨h1, h3, h4, ?_⟩
  dsimp only at h2
  rcases h2 with ⟨rfl, r, e, hr, hs⟩ | ⟨rfl, hn, hs⟩
  · refine .inl ⟨rfl, ?_, ?_, ?_⟩
    · unfold Mine.L at l1; rw [e] at l1; cases r with | nil => exact absurd rfl hr | cons a r => simp only [List.length_cons] at l1; omega
    · rw [lit, show (0 : Int) = ((0 : Nat) : Int) from rfl, item_L x (c := 94) (by unfold Mine.L; rw [e]; rfl)]; simp
    · have := slice_sn x (i := 1) (by decide)
      unfold Mine.L at this; rw [this, e]; exact hs
  · refine .inr ⟨rfl, hs, ?_⟩
    by_cases hl : (1 : Int) < x.length
    · refine .inr ⟨hl, ?_⟩
      cases hx : (Mine.L x) with
      | nil => rw [hx] at l1; simp at l1; omega
      | cons a r =>
        rw [lit, show (0 : Int) = ((0 : Nat) : Int) from rfl, item_L x (c := a) (by rw [hx]; rfl), ch_inj, beq_eq_false_iff_ne]
        rintro rfl
        have := hn r hx
        rw [hx, this] at l1; simp at l1; omega
    · exact .inl hl
def SetsOfS (K : Params → Frag) : Prop := ∀ (w : World) (ar : Addr) (vs : List Value) (nn : Nat) (rs : List (Bool × List Nat)) (news : Led), (ar, listOf vs.toArray nn) ∈ news → Args w news vs rs → rs.length ≤ 10 →
  Fn K w 377 5 [.none, .ref ar] news fun r n _ => ∃ A ex, r = .ref A ∧ n = news ++ ex ∧ SetsIn ex A rs ∧ Fresh ex news
end Mine
end
noncomputable section
open PySem PySem.W PyProof.Rows PySem.Spec PySem.Calls
set_option Elab.async false
set_option maxRecDepth 100000
namespace Mine
theorem L_empty : L (Str.ofString "") = [] := by decide +kernel
theorem join_flat : ∀ ys : List Str, L (Str.join (Str.ofString "") ys) = (ys.map L).flatten
  | [] => rfl
  | [x] => by show L x = [L x].flatten; simp
  | x :: y :: r => by
    show L (x ++ Str.ofString "" ++ Str.join (Str.ofString "") (y :: r)) = _
    rw [L_app, L_app, L_empty, join_flat (y :: r)]; simp
theorem flat_ch : ∀ cs : List Nat, ((cs.map ch).map L).flatten = cs
  | [] => rfl
  | c :: cs => by rw [List.map_cons, List.map_cons, List.flatten_cons, flat_ch cs]; rfl
theorem join_chs (cs : List Nat) : Str.join (Str.ofString "") (cs.map ch) = S cs := str_ext (by rw [join_flat, flat_ch, L_S])
theorem sum_ch (cs : List Nat) : ((cs.map ch).map (·.length)).sum = cs.length := by
  induction cs with
  | nil => rfl
  | cons c cs ih => rw [List.map_cons, List.map_cons, List.sum_cons, ih, List.length_cons]; show 1 + _ = _; (first | lia | omega)
section
variable {prog : Program} {w : World} {A : Around} {E : Value → Shared → Prop} {s : Shared} {h₀ : Heap} {L₀ : Addr} {news : Led}
theorem call_join_chs {D : Addr} {ys : List Value} {cap : Nat} {cs : List Nat} {t : Tok} {Q : Value → Shared → Prop} (N : News h₀ L₀ s.heap news) (hm : (D, listOf ys.toArray cap) ∈ news) (hc : Chs ys cs) (hb : cs.length ≤ 100000)
    (h : ∀ t' k, Q (.str (S cs) t') { s with toks := k }) : wpAny (model prog w) A (call (.builtin "str.join") [.str (Str.ofString "") t, .ref D]) Q E s :=
  join_list (News.isList N hm) hc (by rw [sum_ch, List.length_map, show (Str.ofString "").length = 0 by decide +kernel]; (first | lia | omega)) fun t' k => by
    have e : Txt.join (Str.ofString "") (cs.map ch) = S cs := by unfold Txt.join; first | exact join_chs cs | exact (PySem.StrLaws.glued_eq_join _ _).trans (join_chs cs)
    rw [e]; exact h t' k
end
end Mine

end
noncomputable section
open PySem PySem.W PyProof.Rows PySem.Spec PySem.Calls
namespace Mine
theorem not_sub {news ex : Led} {p q : Addr × Obj} (hp : p ∈ news) : p ∈ q :: (news ++ ex) := by simp only [List.mem_cons, List.mem_append, hp, true_or, or_true]
def CountS (K : Params → Frag) : Prop := ∀ (w : World) (a ar : Addr) (x : Str) (t : Tok) (vs : List Value) (nn : Nat) (rs : List (Bool × List Nat)) (news : Led), ThingIn w news a x t → x.length ≤ 1000 → (ar, listOf vs.toArray nn) ∈ news → Args w news vs rs → rs.length ≤ 10 →
  Fn K w 389 7 [.none, .ref a, .ref ar] news fun r n _ => (∃ t, r = .int ((x.cps.toList.countP (isIn rs) : Nat) : Int) t) ∧ n = news
end Mine
end
noncomputable section
open PySem PySem.W PyProof.Rows PySem.Spec PySem.Calls
namespace Mine
def DeletedS (K : Params → Frag) : Prop := ∀ (w : World) (ar : Addr) (x : Str) (t : Tok) (vs : List Value) (nn : Nat) (rs : List (Bool × List Nat)) (news : Led), x.length ≤ 1000 → (ar, listOf vs.toArray nn) ∈ news → Args w news vs rs → rs.length ≤ 10 →
  Fn K w 401 7 [.none, .str x t, .ref ar] news fun r n _ => (∃ t, r = .str (S (x.cps.toList.filter fun c => !isIn rs c)) t) ∧ n = news
end Mine
end
noncomputable section
open PySem PySem.W PyProof.Rows PySem.Spec PySem.Calls
namespace Mine
def sqzStep (rs : List (Bool × List Nat)) (acc : List Nat) (c : Nat) : List Nat := if acc.getLast? = some c ∧ isIn rs c = true then acc else acc ++ [c]
def sqz (rs : List (Bool × List Nat)) (l : List Nat) : List Nat := l.foldl (sqzStep rs) []
theorem sqz_snoc (rs : List (Bool × List Nat)) (l : List Nat) (c : Nat) : sqz rs (l ++ [c]) = sqzStep rs (sqz rs l) c := by unfold sqz; rw [List.foldl_append]; rfl
theorem chs_init {vs : List Value} {cs : List Nat} {v : Value} {d : Nat} (h : Chs (vs ++ [v]) (cs ++ [d])) : Chs vs cs := by
  unfold Chs at h ⊢
  induction vs generalizing cs with
  | nil =>
    have := h.length
    cases cs with
    | nil => exact .nil
    | cons c cs => simp at this
  | cons v' vs ih => cases cs with
    | nil => have := h.length; simp at this
    | cons c cs => cases h with | cons _ _ r => exact .cons _ _ (ih r)
theorem sqz_len (rs : List (Bool × List Nat)) (l : List Nat) : (sqz rs l).length ≤ l.length := by
  have key : ∀ (l acc : List Nat), (l.foldl (sqzStep rs) acc).length ≤ acc.length + l.length := by
    intro l
    induction l with
    | nil => intro acc; exact Nat.le_refl _
    | cons c l ih =>
      intro acc
      refine Nat.le_trans (ih _) ?_
      have : (sqzStep rs acc c).length ≤ acc.length + 1 := by
        unfold sqzStep; split
        · (first | lia | omega)
        · rw [List.length_append]; exact Nat.le_refl _
      rw [List.length_cons]; (first | lia | omega)
  have := key l []
  simpa [sqz] using this
theorem Chs.last {vs : List Value} {cs : List Nat} (h : Chs vs cs) : vs = [] ∧ cs = [] ∨ ∃ vs' d u cs', vs = vs' ++ [Value.str (ch d) u] ∧ cs = cs' ++ [d] ∧ Chs vs' cs' := by
  rcases List.eq_nil_or_concat cs with rfl | ⟨cs', d, rfl⟩
  · left; have := h.length; exact ⟨List.eq_nil_of_length_eq_zero (by simpa using this), rfl⟩
  · right
    rw [List.concat_eq_append] at h ⊢
    have hl := h.length
    rw [List.length_append] at hl
    obtain ⟨t, e⟩ := h.get (i := cs'.length) (c := d) (by simp)
    have hv : vs = vs.take cs'.length ++ [Value.str (ch d) t] := by
      conv => lhs; rw [← List.take_append_drop cs'.length vs]
      congr 1
      have h1 : cs'.length < vs.length := by simp at hl; (first | lia | omega)
      rw [List.drop_eq_getElem_cons h1, List.drop_eq_nil_of_le (by simp at hl; (first | lia | omega))]
      rw [List.getElem?_eq_getElem h1] at e
      rw [Option.some.inj e]
    refine ⟨_, d, t, cs', hv, rfl, ?_⟩
    rw [hv] at h
    exact chs_init h
theorem sqz_app {rs : List (Bool × List Nat)} {l : List Nat} {i c : Nat} (hc : l[i]? = some c) (hn : ¬ ((sqz rs (l.take i)).getLast? = some c ∧ isIn rs c = true)) : sqz rs (l.take (i + 1)) = sqz rs (l.take i) ++ [c] := by
  rw [List.take_add_one, hc, show (some c : Option Nat).toList = [c] from rfl, sqz_snoc, sqzStep, if_neg hn]
theorem sqz_stay {rs : List (Bool × List Nat)} {l : List Nat} {i c : Nat} (hc : l[i]? = some c) (hn : (sqz rs (l.take i)).getLast? = some c) (h : isIn rs c = true) : sqz rs (l.take (i + 1)) = sqz rs (l.take i) := by
  rw [List.take_add_one, hc, show (some c : Option Nat).toList = [c] from rfl, sqz_snoc, sqzStep, if_pos ⟨hn, h⟩]
theorem ne_of_bne {d c : Nat} (h : (d != c) = true) : d ≠ c := by simpa using h
theorem eq_of_bne {d c : Nat} (h : (d != c) = false) : d = c := by simpa using h
theorem ch_bne {d c : Nat} : (ch d != ({ cps := #[c] } : Str)) = (d != c) := by
  show (ch d != ch c) = _
  rw [bne, ch_inj]; rfl
structure AccC where
  vs : List Value
  cap : Nat
def AccJ (FA : Addr) (B : Led) (P : Nat → List Value → Prop) (i : Nat) (c : AccC) (nx : Led) : Prop := nx = (FA, listOf c.vs.toArray c.cap) :: B ∧ P i c.vs
def SqueezedS (K : Params → Frag) : Prop := ∀ (w : World) (ar : Addr) (x : Str) (t : Tok) (vs : List Value) (nn : Nat) (rs : List (Bool × List Nat)) (news : Led), x.length ≤ 1000 → (ar, listOf vs.toArray nn) ∈ news → Args w news vs rs → rs.length ≤ 10 →
  Fn K w 396 7 [.none, .str x t, .ref ar] news fun r n _ => (∃ t, r = .str (S (sqz rs x.cps.toList)) t) ∧ n = news
end Mine
end
noncomputable section
open PySem PySem.W PyProof.Rows PySem.Spec PySem.Calls
set_option Elab.async false
set_option maxRecDepth 100000
namespace Mine
section
variable {σ : Type} {prog : Program} {w : World} {A : Around} {E : Value → Shared → Prop} {s : Shared} {env : Env} {h₀ : Heap} {body : List Stmt} {Q : Flow → Shared → Prop} {m₀ : Str → Option Value}
/-- a for with two names over the numbered items of a list of the ledger -/
theorem for_enum {elts : List Expr} {k : Nat} {pos : Pos} {l : Addr} {vs : List Value} {nn : Nat} {news : Led} (ps : σ → List (Str × Value)) (x : Str) (stored : List Str) (J : Nat → σ → Led → Prop) (c₀ : σ) (hh : A.handled = none)
    (hl : (l, listOf vs.toArray nn) ∈ news) (F : Fr h₀ env.locals s.heap m₀) (N : News h₀ env.locals s.heap news) (hk : ∀ p ∈ ps c₀, m₀ p.1 = some p.2) (hj : J 0 c₀ news)
    (turn : ∀ (i : Nat) y T t c nx (u : Str → Option Value) h tk own, vs[i]? = some y → IsTup h T #[.int (i : Int) t, y] → (l, listOf vs.toArray nn) ∈ nx → J i c nx → OwnOff own (nx.map (·.1)) → Fr h₀ env.locals h (mapT x stored m₀ u (ps c) (u x)) → News h₀ env.locals h (nx ++ own) →
      wpAny (model prog w) A (assign (.Tuple elts k pos) env (.ref T)) (fun _ s₃ => wpAny (model prog w) A (execs body env) (TurnP h₀ env.locals x ps stored m₀ (fun c nx => (l, listOf vs.toArray nn) ∈ nx ∧ J (i + 1) c nx) own { s with heap := h, toks := tk } Q) E s₃) E { s with heap := h, toks := tk })
    (done : ∀ c nx (u : Str → Option Value) h tk, J vs.length c nx → Fr h₀ env.locals h (mapT x stored m₀ u (ps c) (u x)) → News h₀ env.locals h nx → Q .next { s with heap := h, toks := tk }) :
    wpAny (model prog w) A (call (.type "enumerate") [.ref l]) (fun xv s₁ => wpAny (model prog w) A (pyIter xv) (fun it s₂ => TurnsAt prog w A h₀ env (.Tuple elts k pos) body Q E it s₂) E s₁) E s := by
  have hax := N _ hl
  have hls : s.heap.IsList l vs.toArray := ⟨_, hax.1, rfl, nn, rfl⟩
  have hlt : l < s.heap.objs.size := Heap.lt_size hax.1
  have hLs : env.locals < s.heap.objs.size := F.ns.lt
  refine call_enumerate_list hls fun h' hE hI hsz hkk => ?_
  refine wpAny_pyIter_enum hE ?_
  refine for_tup (s := { s with heap := h' }) (cst := [(l, listOf vs.toArray nn)]) ps x stored (fun i c nx => (l, listOf vs.toArray nn) ∈ nx ∧ J i c nx) c₀ (KTurns.ofWalksU (WalksT.enumerate hh (s.heap.objs.size + 1) s.heap.objs.size l (Nat.succ_ne_self _) (ktu_ne 1 hlt) (Nat.ne_of_lt hlt) vs.toArray).toU)
    ?_ ?_ (fun i c nx hJ p hp => by rw [List.mem_singleton.mp hp]; exact hJ.1) ?_ ?_ ?_ ⟨⟨.none, hE⟩, hI, hls.at fun o e => hkk l o e⟩ (F.keeps hkk) (N.grown hkk) hk ⟨hl, hj⟩ ?_
    (fun c nx u h tk hJ F₁ N₁ => done c nx u h tk (by simpa using hJ.2) F₁ N₁)
  · rintro i h ⟨⟨old, he⟩, ⟨oi, hoi, hic, _⟩, _⟩ b hb
    have hb' : b = s.heap.objs.size + 1 ∨ b = s.heap.objs.size := by simpa using hb
    rcases hb' with rfl | rfl
    · exact ⟨_, he⟩
    · exact ⟨_, hoi⟩
  · intro b hb
    have hb' : b = s.heap.objs.size + 1 ∨ b = s.heap.objs.size ∨ b = l := by simpa using hb
    rcases hb' with rfl | rfl | rfl
    · exact .inl (by simp)
    · exact .inl (by simp)
    · exact .inr ⟨_, List.mem_singleton.mpr rfl⟩
  · intro hI'
    have hb' : env.locals = s.heap.objs.size + 1 ∨ env.locals = s.heap.objs.size ∨ env.locals = l := by simpa using hI'
    rcases hb' with e | e | e
    · exact ktu_ne 1 hLs e
    · exact Nat.ne_of_lt hLs e
    · exact hax.2.1 e.symm
  · intro b hb
    have hb' : b = s.heap.objs.size + 1 ∨ b = s.heap.objs.size := by simpa using hb
    rcases hb' with rfl | rfl
    · exact ktu_new F (Nat.le_add_right _ _)
    · exact ktu_new F (Nat.le_refl _)
  · intro p hp hI'
    have hb' : p.1 = s.heap.objs.size + 1 ∨ p.1 = s.heap.objs.size := by simpa using hI'
    have hlp := Heap.lt_size (N p hp).1
    rcases hb' with e | e
    · exact ktu_ne 1 hlp e
    · exact Nat.ne_of_lt hlp e
  · rintro i v c nx u h tk own hi ⟨T, vals, rfl, ⟨t, y, hy, rfl⟩, hT⟩ hJ hoff F₁ N₁
    exact turn i y T t c nx u h tk own (by simpa using hy) hT hJ.1 hJ.2 hoff F₁ N₁
end
/-- the greatest number below n at which l has c -/
noncomputable def lastIdx (l : List Nat) (c : Nat) : Nat → Option Nat
  | 0 => none
  | n + 1 => if l[n]? = some c then some n else lastIdx l c n
theorem lastIdx_lt {l : List Nat} {c : Nat} : ∀ {n j : Nat}, lastIdx l c n = some j → j < n ∧ l[j]? = some c
  | 0, _, h => by cases h
  | n + 1, j, h => by
    unfold lastIdx at h
    split at h
    · cases h; exact ⟨Nat.lt_succ_self _, by assumption⟩
    · have := lastIdx_lt h; exact ⟨by omega, this.2⟩
def trVal (others : List Nat) (j : Nat) : Nat := others.getD (min j (others.length - 1)) 0
def trSign (known others : List Nat) (c : Nat) : Nat := match lastIdx known c known.length with | none => c | some j => trVal others j
/-- what tr makes of a text's signs -/
def trL (b : Bool) (known others l : List Nat) : List Nat :=
  if others = [] then l.filter (fun c => !isIn [(b, known)] c) else
  if b = true then l.map (fun c => if known.contains c then c else others.getLastD 0) else l.map (trSign known others)
theorem valueAt_stored {K : Type} [DecidableEq K] (kvs : List (K × Value)) (k k' : K) (v : Value) : valueAt (stored kvs k v) k' = if k' = k then some v else valueAt kvs k' := by
  unfold valueAt stored
  by_cases h : (kvs.any fun kv => decide (kv.1 = k)) = true
  · rw [if_pos h]
    induction kvs with
    | nil => cases h
    | cons p r ih =>
      rw [List.map_cons, List.find?_cons, List.find?_cons]
      by_cases hp : p.1 = k
      · by_cases hk : k' = k
        · simp [hp, hk]
        · have h1 : ¬ k = k' := fun e => hk e.symm
          simp only [hp, if_true, h1, decide_false, hk, if_false]
          clear h ih
          induction r with
          | nil => rfl
          | cons q r ih =>
            rw [List.map_cons, List.find?_cons, List.find?_cons]
            by_cases hq : q.1 = k
            · simp only [hq, if_true, h1, decide_false]; exact ih
            · simp only [hq, if_false]
              by_cases hq' : q.1 = k'
              · simp [hq']
              · simp only [hq', decide_false]; exact ih
      · simp only [hp, if_false]
        by_cases hq' : p.1 = k'
        · have hk : ¬ k' = k := fun e => hp (hq'.trans e)
          simp [hq', hk]
        · simp only [hq', decide_false]
          refine ih ?_
          simpa [hp] using h
  · rw [if_neg h, List.find?_append]
    by_cases hk : k' = k
    · have : (kvs.find? fun kv => decide (kv.1 = k')) = none := by
        rw [List.find?_eq_none]; intro p hp hq
        exact h (List.any_eq_true.mpr ⟨p, hp, by simpa [hk] using hq⟩)
      rw [this, if_pos hk]; simp [hk]
    · rw [if_neg hk]
      have h1 : ¬ k = k' := fun e => hk e.symm
      simp [h1]
/-- the dict that tr fills -/
def RowsJ (known others : List Nat) (i : Nat) (kvs : List (Str × Value)) : Prop :=
  kvs.length ≤ i ∧ ∀ c, match lastIdx known c i with | none => valueAt kvs (ch c) = none | some j => ∃ t, valueAt kvs (ch c) = some (.str (ch (trVal others j)) t)
theorem RowsJ.start (known others : List Nat) : RowsJ known others 0 [] := ⟨Nat.zero_le _, fun c => rfl⟩
theorem ch_eq {a b : Nat} : ch a = ch b ↔ a = b := by
  constructor
  · intro h; have := @ch_inj a b; rw [h] at this; simpa using this.symm
  · intro h; rw [h]
theorem RowsJ.step {known others : List Nat} {i c : Nat} {kvs : List (Str × Value)} {t : Tok} (h : RowsJ known others i kvs) (hc : known[i]? = some c) : RowsJ known others (i + 1) (stored kvs (ch c) (.str (ch (trVal others i)) t)) := by
  refine ⟨Nat.le_trans (stored_length_le _ _ _) (Nat.succ_le_succ h.1), fun d => ?_⟩
  have h2 := h.2 d
  unfold lastIdx
  rw [hc]
  by_cases e : c = d
  · subst e
    simp only [if_true]
    exact ⟨t, by rw [valueAt_stored, if_pos rfl]⟩
  · have e1 : ¬ some c = some d := fun q => e (Option.some.inj q)
    have e2 : ¬ ch d = ch c := fun q => e (ch_eq.mp q).symm
    rw [if_neg e1, valueAt_stored, if_neg e2]
    exact h2
theorem RowsJ.get {known others : List Nat} {kvs : List (Str × Value)} (h : RowsJ known others known.length kvs) (c : Nat) (t : Tok) : ∃ t', (valueAt kvs (ch c)).getD (.str (ch c) t) = .str (ch (trSign known others c)) t' := by
  have h2 := h.2 c
  unfold trSign
  cases hl : lastIdx known c known.length with
  | none => rw [hl] at h2; exact ⟨t, by rw [h2]; rfl⟩
  | some j => rw [hl] at h2; obtain ⟨t', e⟩ := h2; exact ⟨t', by rw [e]; rfl⟩
end Mine
namespace Mine
theorem stop_enum {M : Model} {A : Around} {E : Value → Shared → Prop} {s : Shared} {Q : Value → Shared → Prop} {v : Value} (h : Stop (wpAny M A (call (.type "enumerate") [v]) Q E s)) : wpAny M A (call (.type "enumerate") [v]) Q E s := h
theorem trL_turned {known others l cs : List Nat} {d : Nat} (e : others = cs ++ [d]) : trL true known others l = l.map fun c => if known.contains c then c else d := by
  unfold trL
  rw [if_neg (by rw [e]; simp), if_pos rfl, e]
  simp
theorem trL_plain {known others l : List Nat} (h : others ≠ []) : trL false known others l = l.map (trSign known others) := by
  unfold trL
  rw [if_neg h, if_neg (by decide)]
theorem Chs.mapStep {f : Nat → Nat} {vs : List Value} {l : List Nat} {i c : Nat} {t : Tok} (h : Chs vs ((l.take i).map f)) (hc : l[i]? = some c) : Chs (vs ++ [.str (ch (f c)) t]) ((l.take (i + 1)).map f) := by
  rw [List.take_add_one, hc, List.map_append]
  exact h.snoc
end Mine
namespace Mine
theorem Chs.at {vs : List Value} {cs : List Nat} (h : Chs vs cs) {i : Nat} {v : Value} (e : vs[i]? = some v) : ∃ c t, cs[i]? = some c ∧ v = .str (ch c) t := by
  have hi : i < vs.length := by
    rcases Nat.lt_or_ge i vs.length with h1 | h1
    · exact h1
    · rw [List.getElem?_eq_none h1] at e; cases e
  have hc : cs[i]? = some (cs[i]'(by rw [← Chs.length h]; exact hi)) := List.getElem?_eq_getElem _
  obtain ⟨t, e'⟩ := Chs.get h hc
  rw [e] at e'
  exact ⟨_, t, hc, Option.some.inj e'⟩
structure RowC where
  o : Obj
  kvs : List (Str × Value)
def RowCJ (w : World) (d : Addr) (B : Led) (known others : List Nat) (i : Nat) (c : RowC) (nx : Led) : Prop := nx = (d, c.o) :: B ∧ c.o.IsDictOf (PySem.strKind PySem.Challenge.rw_nz0043_01.row.toRowW.prog w) c.kvs ∧ RowsJ known others i c.kvs
theorem trVal_get {others : List Nat} (h : others ≠ []) (j : Nat) : others[min j (others.length - 1)]? = some (trVal others j) := by
  have h1 : 0 < others.length := List.length_pos_iff.mpr h
  have h2 : min j (others.length - 1) < others.length := by omega
  unfold trVal
  rw [List.getD_eq_getElem?_getD, List.getElem?_eq_getElem h2]; rfl
end Mine
namespace Mine
section
variable {w : World} {A : Around} {E : Value → Shared → Prop} {s : Shared} {env : Env} {h₀ : Heap} {body : List Stmt} {Q : Flow → Shared → Prop} {m₀ : Str → Option Value}
theorem for_enumDict {elts : List Expr} {k : Nat} {pos : Pos} {l : Addr} {vs : List Value} {nn : Nat} {d : Addr} {o : Obj} {B : Led} (known others : List Nat) (x : Str) (stored : List Str) (hh : A.handled = none)
    (F : Fr h₀ env.locals s.heap m₀) (N : News h₀ env.locals s.heap ((d, o) :: B)) (hl : (l, listOf vs.toArray nn) ∈ (d, o) :: B) (hD : o.IsDictOf (PySem.strKind PySem.Challenge.rw_nz0043_01.row.toRowW.prog w) [])
    (turn : ∀ (i : Nat) y T t c nx (u : Str → Option Value) h tk own, vs[i]? = some y → IsTup h T #[.int (i : Int) t, y] → (l, listOf vs.toArray nn) ∈ nx → RowCJ w d B known others i c nx → OwnOff own (nx.map (·.1)) → Fr h₀ env.locals h (mapT x stored m₀ u [] (u x)) → News h₀ env.locals h (nx ++ own) →
      wpAny (model PySem.Challenge.rw_nz0043_01.row.toRowW.prog w) A (assign (.Tuple elts k pos) env (.ref T)) (fun _ s₃ => wpAny (model PySem.Challenge.rw_nz0043_01.row.toRowW.prog w) A (execs body env) (TurnP h₀ env.locals x (fun _ => []) stored m₀ (fun c nx => (l, listOf vs.toArray nn) ∈ nx ∧ RowCJ w d B known others (i + 1) c nx) own { s with heap := h, toks := tk } Q) E s₃) E { s with heap := h, toks := tk })
    (done : ∀ c nx (u : Str → Option Value) h tk, RowCJ w d B known others vs.length c nx → Fr h₀ env.locals h (mapT x stored m₀ u [] (u x)) → News h₀ env.locals h nx → Q .next { s with heap := h, toks := tk }) :
    wpAny (model PySem.Challenge.rw_nz0043_01.row.toRowW.prog w) A (call (.type "enumerate") [.ref l]) (fun xv s₁ => wpAny (model PySem.Challenge.rw_nz0043_01.row.toRowW.prog w) A (pyIter xv) (fun it s₂ => TurnsAt PySem.Challenge.rw_nz0043_01.row.toRowW.prog w A h₀ env (.Tuple elts k pos) body Q E it s₂) E s₁) E s :=
  for_enum (σ := RowC) (fun _ => []) x stored (RowCJ w d B known others) ⟨o, []⟩ hh hl F N (List.forall_mem_nil _) ⟨rfl, hD, RowsJ.start _ _⟩ turn done
end
end Mine
namespace Mine
theorem trVal_item {others : List Nat} {n i : Nat} (hl : n = others.length) (h : others ≠ []) : (List.map ch others).getD (if (n : Int) - 1 < (i : Int) then (n : Int) - 1 else (i : Int)).toNat Str.empty = ch (trVal others i) := by
  have h1 : 0 < others.length := List.length_pos_iff.mpr h
  have e : (if (n : Int) - 1 < (i : Int) then (n : Int) - 1 else (i : Int)).toNat = min i (others.length - 1) := by split <;> omega
  rw [e, List.getD_eq_getElem?_getD, List.getElem?_map, trVal_get h]; rfl
end Mine

end
noncomputable section
open PySem PySem.W PyProof.Rows PySem.Spec PySem.Calls
set_option Elab.async false
set_option maxRecDepth 100000
namespace Mine
section
variable {prog : Program} {w : World} {A : Around} {E : Value → Shared → Prop} {s : Shared} {h₀ : Heap} {L : Addr} {news : Led}
/-- an item of a list of two at an open place -/
theorem item_two {value slice : Expr} {l : Addr} {a b : Value} {nn : Nat} {k : Int} {u : Tok} {Q : Value → Shared → Prop} (N : News h₀ L s.heap news) (hm : (l, listOf [a, b].toArray nn) ∈ news) (h0 : 0 ≤ k) (h1 : k < 2)
    (ha : Q a s) (hb : Q b s) (hs : subscripted slice false (.ref l) (.int k u) = operate [.ref l, .int k u] (getItem (.ref l) (.int k u)) := by with_unfolding_all rfl) :
    wpAny (model prog w) A (subscriptTail value slice (.ref l) (.int k u)) Q E s := by
  have hk : k = 0 ∨ k = 1 := by (first | lia | omega)
  rcases hk with rfl | rfl
  · exact item_mem N hm (by decide) (by decide) rfl ha hs
  · exact item_mem N hm (by decide) (by decide) rfl hb hs
/-- an item of the other side of a tr -/
theorem item_tr {value slice : Expr} {l : Addr} {vs : List Value} {others : List Nat} {nn : Nat} {i : Nat} {u : Tok} {Q : Value → Shared → Prop} (N : News h₀ L s.heap news) (hm : (l, listOf vs.toArray nn) ∈ news) (hC : Chs vs others) (hn : others ≠ []) (hz : vs.length ≤ 100000)
    (h : ∀ t, Q (.str (ch (trVal others i)) t) s)
    (hs : ∀ k, subscripted slice false (.ref l) (.int k u) = operate [.ref l, .int k u] (getItem (.ref l) (.int k u)) := by intro k; with_unfolding_all rfl) :
    wpAny (model prog w) A (subscriptTail value slice (.ref l) (.int (if (vs.length : Int) - 1 < (i : Int) then (vs.length : Int) - 1 else (i : Int)) u)) Q E s := by
  have hl : vs.length = others.length := Chs.length hC
  have h0 : 0 < others.length := List.length_pos_iff.mpr hn
  have e : (if (vs.length : Int) - 1 < (i : Int) then (vs.length : Int) - 1 else (i : Int)) = ((min i (others.length - 1) : Nat) : Int) := by
    rw [hl]; split <;> (first | lia | omega)
  rw [e]
  obtain ⟨t, ht⟩ := Chs.get hC (trVal_get hn i)
  refine item_mem N hm (by (first | lia | omega)) (by (first | lia | omega)) (v := .str (ch (trVal others i)) t) ?_ (h t) (hs _)
  rw [Int.toNat_natCast, List.getElem?_toArray]
  exact ht
end
end Mine

end
noncomputable section
open PySem PySem.W PyProof.Rows PySem.Spec PySem.Calls
namespace Mine
def TranslatedS (K : Params → Frag) : Prop := ∀ (w : World) (a1 b1 ar : Addr) (x y z : Str) (t ty tz : Tok) (nn : Nat) (r : Bool × List Nat) (others : List Nat) (news : Led), ThingIn w news a1 y ty → TelX y r → ThingIn w news b1 z tz → Spr z.cps.toList others → z.length ≤ 1000 → others.length ≤ 100000 → (∀ c ∈ others, c < 50000) → (ar, listOf #[.ref a1, .ref b1] nn) ∈ news → x.length ≤ 1000 →
  Fn K w 406 9 [.none, .str x t, .ref ar] news fun v n _ => (∃ t, v = .str (S (trL r.1 r.2 others x.cps.toList)) t) ∧ n = news
end Mine
end
noncomputable section
open PySem PySem.W PyProof.Rows PySem.Spec PySem.Calls Builtin Builtin.Str
set_option Elab.async false
set_option maxRecDepth 100000
namespace Mine
theorem isSame_tok (y z : Str) (u : Tok) (hu : u ≠ 0) : isSame (.str y u) (.str z u) = pure true := by
  show (if (u == 0 || u == 0) = true then _ else if (u == u) = true then pure true else _ : Sem Bool) = _
  rw [show (u == 0 || u == 0) = false by simp [hu], beq_self_eq_true]
  rfl
theorem gives_rep3_same (x y : Str) (t u : Tok) (hu : u ≠ 0) : Gives («str.replace» ⟨[.str x t, .str y u, .str y u], []⟩) (.val (.str x t)) := by
  show Gives (if ((occurrences x y 0 x.length (x.length + 1)).isEmpty || (y.length == 0 && y.length == 0)) = true then (do rule "str.replace.nothing"; ret (.str x t)) else
          (do let same ← isSame (.str y u) (.str y u)
              if same = true then (do rule "str.replace.old-is-new"; ret (.str x t)) else
              if tooLong (x.length + (occurrences x y 0 x.length (x.length + 1)).length * y.length) = true then unsupported "str.replace:memory" else
              retStr (glued y (partsBetween x (occurrences x y 0 x.length (x.length + 1)) y.length)))) _
  rw [isSame_tok y y u hu]
  cases hc : ((occurrences x y 0 x.length (x.length + 1)).isEmpty || (y.length == 0 && y.length == 0))
  · exact .rule (.of_eq rfl)
  · exact .rule (.of_eq rfl)
theorem gives_rep4_same (x y : Str) (t u v' : Tok) (hu : u ≠ 0) : Gives («str.replace» ⟨[.str x t, .str y u, .str y u, .int 1 v'], []⟩) (.val (.str x t)) := by
  show Gives (if ((occurrences x y 0 x.length 1).isEmpty || (y.length == 0 && y.length == 0)) = true then (do rule "str.replace.nothing"; ret (.str x t)) else
          (do let same ← isSame (.str y u) (.str y u)
              if same = true then (do rule "str.replace.old-is-new"; ret (.str x t)) else
              if tooLong (x.length + (occurrences x y 0 x.length 1).length * y.length) = true then unsupported "str.replace:memory" else
              retStr (glued y (partsBetween x (occurrences x y 0 x.length 1) y.length)))) _
  rw [isSame_tok y y u hu]
  cases hc : ((occurrences x y 0 x.length 1).isEmpty || (y.length == 0 && y.length == 0))
  · exact .rule (.of_eq rfl)
  · exact .rule (.of_eq rfl)
theorem glued_self (x y : Str) (limit : Nat) : glued y (partsBetween x (occurrences x y 0 x.length limit) y.length) = x := by
  obtain ⟨f, h⟩ := StrLaws.occ_chain x y limit
  rw [StrLaws.glued_eq_join, StrLaws.partsBetween_eq, StrLaws.join_partsFrom x y _ 0 f h, StrLaws.sub_whole]
theorem replace1_self (x y : Str) : replace1 x y y = x := by
  unfold replace1
  split
  · rfl
  · exact glued_self x y 1
theorem replace1_len (x y z : Str) : (replace1 x y z).length ≤ x.length + z.length := by
  unfold replace1
  split
  · exact Nat.le_add_right _ _
  · have h1 := StrLaws.occ_length_le x y 0 x.length 1
    have hy : (glued y (partsBetween x (occurrences x y 0 x.length 1) y.length)).length = x.length := by rw [glued_self]
    rw [size_glued, length_partsBetween, Nat.add_sub_cancel] at hy
    rw [size_glued, length_partsBetween, Nat.add_sub_cancel]
    have h2 : (occurrences x y 0 x.length 1).length * z.length ≤ 1 * z.length := Nat.mul_le_mul_right _ h1
    (first | lia | omega)
section
variable {prog : Program} {w : World} {A : Around} {E : Value → Shared → Prop} {s : Shared} {x y z : Str} {t u v v' : Tok} {Q : Value → Shared → Prop}
theorem call_rep4 (hu : u ≠ 0) (hv : v ≠ 0) (huv : u = v → y = z) (hnb : NoneBooked s.heap) (hx : x.length ≤ 5000) (hz : z.length ≤ 5000)
    (hq : ∀ t' k, Q (.str (replace1 x y z) t') { s with toks := k }) :
    wpAny (model prog w) A (call (.builtin "str.replace") [.str x t, .str y u, .str z v, .int 1 v']) Q E s := by
  by_cases e : u = v
  · have := huv e
    subst e this
    refine call_gives F.slot_str_replace (typeIs_str _ _ _) F.entry_str_replace (F.args_str_replace_4 _ _ _ _) (gives_rep4_same x y t u v' hu) ?_
    have := hq t s.toks
    rw [replace1_self] at this
    exact this
  · exact call_replace1 hu hv e hnb (by (first | lia | omega)) (StrLaws.occ_length_le x y 0 x.length 1) (Nat.le_trans (replace1_len x y z) (by (first | lia | omega))) (replace1_self x y) hq
theorem call_rep3 (hu : u ≠ 0) (hv : v ≠ 0) (huv : u = v → y = z) (hnb : NoneBooked s.heap) (hx : x.length ≤ 1000) (hz : z.length ≤ 1000)
    (hq : ∀ t' k, Q (.str (Txt.replace x y z) t') { s with toks := k }) :
    wpAny (model prog w) A (call (.builtin "str.replace") [.str x t, .str y u, .str z v]) Q E s := by
  by_cases e : u = v
  · have := huv e
    subst e this
    refine call_gives F.slot_str_replace (typeIs_str _ _ _) F.entry_str_replace (F.args_str_replace_3 _ _ _) (gives_rep3_same x y t u hu) ?_
    have := hq t s.toks
    rw [Txt.replace_self] at this
    exact this
  · exact SC.replaceW2 1000 1000 (by decide) hu hv e hx hz hq hnb
end
end Mine

end
noncomputable section
open PySem PySem.W PyProof.Rows PySem.Spec PySem.Calls
namespace Mine
def RepFirstS (K : Params → Frag) : Prop := ∀ (w : World) (a1 b1 ar : Addr) (x y z : Str) (t u v : Tok) (nn : Nat) (news : Led), ThingIn w news a1 y u → ThingIn w news b1 z v → u ≠ 0 → v ≠ 0 → (u = v → y = z) → (ar, listOf #[.ref a1, .ref b1] nn) ∈ news → x.length ≤ 5000 → z.length ≤ 5000 →
  Fn K w 413 2 [.none, .str x t, .ref ar] news fun r n _ => (∃ t, r = .str (replace1 x y z) t) ∧ n = news
end Mine
end
noncomputable section
open PySem PySem.W PyProof.Rows PySem.Spec PySem.Calls
namespace Mine
def RepAllS (K : Params → Frag) : Prop := ∀ (w : World) (a1 b1 ar : Addr) (x y z : Str) (t u v : Tok) (nn : Nat) (news : Led), ThingIn w news a1 y u → ThingIn w news b1 z v → u ≠ 0 → v ≠ 0 → (u = v → y = z) → (ar, listOf #[.ref a1, .ref b1] nn) ∈ news → x.length ≤ 1000 → z.length ≤ 1000 → (Txt.replace x y z).length ≤ 20000 →
  Fn K w 420 2 [.none, .str x t, .ref ar] news fun r n _ => (∃ t, r = .str (Txt.replace x y z) t) ∧ n = news
end Mine
end
noncomputable section
open PySem PySem.W PyProof.Rows PySem.Spec PySem.Calls
set_option Elab.async false
set_option maxRecDepth 100000
namespace Mine
abbrev tup3O (x : Str) (t : Tok) (b : Bool) (K : Addr) : Obj := { cls := .type "tuple", data := .seq #[.str x t, .bool b, .ref K] }
/-- the law's rows of sets: the told text, whether it means all others, its signs -/
inductive Rows3 (n : Led) : List Value → List (Bool × List Nat) → Prop
  | nil : Rows3 n [] []
  | cons {T K : Addr} {x : Str} {t : Tok} {ws : List Value} {k : Nat} {b : Bool} {m : List Nat} {vs : List Value} {rs : List (Bool × List Nat)} : (T, tup3O x t b K) ∈ n → (K, listOf ws.toArray k) ∈ n → Chs ws m → TelX x (b, m) → Rows3 n vs rs → Rows3 n (.ref T :: vs) ((b, m) :: rs)
theorem Rows3.get {n : Led} {vs : List Value} {rs : List (Bool × List Nat)} (h : Rows3 n vs rs) {i : Nat} {v : Value} (e : vs[i]? = some v) : ∃ T K x t ws k b m, v = .ref T ∧ rs[i]? = some (b, m) ∧ (T, tup3O x t b K) ∈ n ∧ (K, listOf ws.toArray k) ∈ n ∧ Chs ws m ∧ TelX x (b, m) := by
  induction h generalizing i with
  | nil => simp at e
  | cons h1 h2 h3 h4 _ ih => cases i with
    | zero => simp only [List.getElem?_cons_zero, Option.some.injEq] at e; exact ⟨_, _, _, _, _, _, _, _, e.symm, rfl, h1, h2, h3, h4⟩
    | succ i => simp only [List.getElem?_cons_succ] at e ⊢; exact ih e
theorem Rows3.mono {n n' : Led} {vs : List Value} {rs : List (Bool × List Nat)} (h : Rows3 n vs rs) (hs : ∀ p ∈ n, p ∈ n') : Rows3 n' vs rs := by
  induction h with
  | nil => exact .nil
  | cons h1 h2 h3 h4 _ ih => exact .cons (hs _ h1) (hs _ h2) h3 h4 ih
theorem Rows3.length {n : Led} {vs : List Value} {rs : List (Bool × List Nat)} (h : Rows3 n vs rs) : vs.length = rs.length := by
  induction h with
  | nil => rfl
  | cons _ _ _ _ _ ih => rw [List.length_cons, List.length_cons, ih]
theorem Rows3.snoc {n : Led} {vs : List Value} {rs : List (Bool × List Nat)} (h : Rows3 n vs rs) {T K : Addr} {x : Str} {t : Tok} {ws : List Value} {k : Nat} {b : Bool} {m : List Nat} (h1 : (T, tup3O x t b K) ∈ n) (h2 : (K, listOf ws.toArray k) ∈ n) (h3 : Chs ws m) (h4 : TelX x (b, m)) : Rows3 n (vs ++ [.ref T]) (rs ++ [(b, m)]) := by
  induction h with
  | nil => exact .cons h1 h2 h3 h4 .nil
  | cons a b c d _ ih => exact .cons a b c d ih
def Sets3 (n : Led) (A : Addr) (rs : List (Bool × List Nat)) : Prop := ∃ vs k, (A, listOf vs.toArray k) ∈ n ∧ Rows3 n vs rs
theorem Sets3.mono {n n' : Led} {A : Addr} {rs : List (Bool × List Nat)} (h : Sets3 n A rs) (hs : ∀ p ∈ n, p ∈ n') : Sets3 n' A rs := by
  obtain ⟨vs, k, h1, h2⟩ := h; exact ⟨vs, k, hs _ h1, h2.mono hs⟩
theorem isIn_eq (rs : List (Bool × List Nat)) (c : Nat) : isIn rs c = (rs.filter fun r => r.2.contains c == r.1).isEmpty := by
  unfold isIn
  induction rs with
  | nil => rfl
  | cons r rs ih =>
    rw [List.all_cons, List.filter_cons]
    by_cases h : (r.2.contains c == r.1) = true
    · rw [if_pos h, h]; rfl
    · rw [if_neg h, show (r.2.contains c == r.1) = false by simpa using h, ih]; rfl
end Mine

end
noncomputable section
open PySem PySem.W PyProof.Rows PySem.Spec PySem.Calls
set_option Elab.async false
set_option maxRecDepth 100000
namespace Mine
section
variable {prog : Program} {w : World} {A : Around} {E : Value → Shared → Prop} {s : Shared} {h₀ : Heap} {L : Addr} {news : Led}
theorem eq_nil {D l : Addr} {ys : List Value} {k j : Nat} {Q : Value → Shared → Prop} (N : News h₀ L s.heap news) (h1 : (D, listOf ys.toArray k) ∈ news) (h2 : (l, listOf #[] j) ∈ news) (hu : A.units < cLine) (h : Q (.bool ys.isEmpty) s) :
    wpAny (model prog w) A (compareOp .Eq (.ref D) (.ref l)) Q E s := by
  cases ys with
  | nil => exact PySem.SeqAt.eq_listAt (e := fun _ => true) (News.isList N h1) (News.isList N h2) rfl hu (fun j h1 _ => absurd h1 (Nat.not_lt_zero _)) h
  | cons y r => exact PySem.SeqAt.eq_list_lengthsAt (News.isList N h1) (News.isList N h2) (by simp) hu h
end
theorem isEmpty_len {α β : Type} {a : List α} {b : List β} (h : a.length = b.length) : a.isEmpty = b.isEmpty := by
  cases a <;> cases b <;> simp at h ⊢
end Mine

end
noncomputable section
open PySem PySem.W PyProof.Rows PySem.Spec PySem.Calls
namespace Mine
def MeansS (K : Params → Frag) : Prop := ∀ (w : World) (A : Addr) (rs : List (Bool × List Nat)) (c : Nat) (t : Tok) (news : Led), Sets3 news A rs → rs.length ≤ 10 →
  Fn K w 463 2 [.ref A, .str (ch c) t] news fun r n _ => r = .bool (isIn rs c) ∧ n = news
end Mine
end
noncomputable section
open PySem PySem.W PyProof.Rows PySem.Spec PySem.Calls
set_option Elab.async false
set_option maxRecDepth 100000
namespace Mine
/-- sought stands in the text at k -/
def hitB (l s : List Nat) (k : Nat) : Bool := decide (k + s.length ≤ l.length) && ((l.drop k).take s.length == s)
/-- the places at which sought stands, below n -/
def spotsN (l s : List Nat) (n : Nat) : List Nat := (List.range n).filter (hitB l s)
def spots (l s : List Nat) : List Nat := spotsN l s (l.length + 1)
theorem spotsN_succ (l s : List Nat) (n : Nat) : spotsN l s (n + 1) = spotsN l s n ++ (if hitB l s n = true then [n] else []) := by
  unfold spotsN
  rw [List.range_succ, List.filter_append, List.filter_cons, List.filter_nil]
theorem slice_hit (x y : Str) (k : Nat) : (Txt.slice x (some (k : Int)) (some ((k : Int) + (y.length : Int))) == y) = ((x.cps.toList.drop k).take y.cps.toList.length == y.cps.toList) := by
  have h1 := slice_ss x (i := (k : Int)) (j := (k : Int) + (y.length : Int)) (by (first | lia | omega)) (by (first | lia | omega))
  have e1 : ((k : Int) + (y.length : Int)).toNat = k + y.length := by (first | lia | omega)
  rw [e1, Int.toNat_natCast, List.drop_take, Nat.add_sub_cancel_left] at h1
  have hy : y.cps.toList.length = y.length := L_len y
  rw [hy, Bool.eq_iff_iff, beq_iff_eq, beq_iff_eq]
  constructor
  · intro e; rw [e] at h1; exact h1.symm
  · intro e; exact str_ext (h1.trans e)
theorem hit_true {x y : Str} {k : Nat} (h1 : (k : Int) + (y.length : Int) ≤ x.length) (h2 : (Txt.slice x (some (k : Int)) (some ((k : Int) + (y.length : Int))) == y) = true) : hitB x.cps.toList y.cps.toList k = true := by
  rw [slice_hit] at h2
  have hy : y.cps.toList.length = y.length := L_len y
  have hx : x.cps.toList.length = x.length := L_len x
  unfold hitB
  rw [h2, Bool.and_true, decide_eq_true_eq]; (first | lia | omega)
theorem hit_false1 {x y : Str} {k : Nat} (h1 : ¬ (k : Int) + (y.length : Int) ≤ x.length) : hitB x.cps.toList y.cps.toList k = false := by
  have hy : y.cps.toList.length = y.length := L_len y
  have hx : x.cps.toList.length = x.length := L_len x
  unfold hitB
  rw [decide_eq_false (by (first | lia | omega)), Bool.false_and]
theorem hit_false2 {x y : Str} {k : Nat} (h2 : (Txt.slice x (some (k : Int)) (some ((k : Int) + (y.length : Int))) == y) = false) : hitB x.cps.toList y.cps.toList k = false := by
  rw [slice_hit] at h2
  unfold hitB
  rw [h2, Bool.and_false]
/-- whole numbers as values -/
def Nats (vs : List Value) (ns : List Nat) : Prop := IntsAre vs (ns.map fun n : Nat => (n : Int))
theorem Nats.nil : Nats [] [] := IntsAre.nil
theorem Nats.snoc {vs : List Value} {ns : List Nat} {n : Nat} {t : Tok} (h : Nats vs ns) : Nats (vs ++ [.int (n : Int) t]) (ns ++ [n]) := by
  unfold Nats at h ⊢
  induction vs generalizing ns with
  | nil => cases ns with
    | nil => exact .cons _ t .nil
    | cons _ _ => cases h
  | cons v vs ih => cases ns with
    | nil => cases h
    | cons m ns => cases h with | cons _ u r => exact .cons _ u (ih r)
theorem Nats.length {vs : List Value} {ns : List Nat} (h : Nats vs ns) : vs.length = ns.length := by
  have := IntsAre.length h
  rw [List.length_map] at this; exact this
theorem Nats.get {vs : List Value} {ns : List Nat} (h : Nats vs ns) {i : Nat} {n : Nat} (e : ns[i]? = some n) : ∃ t, vs[i]? = some (.int (n : Int) t) := by
  unfold Nats at h
  induction ns generalizing vs i with
  | nil => simp at e
  | cons m ns ih =>
    cases h with
    | cons _ t r =>
      cases i with
      | zero => simp only [List.getElem?_cons_zero, Option.some.injEq] at e; exact ⟨t, by rw [e]; rfl⟩
      | succ i => simp only [List.getElem?_cons_succ] at e ⊢; exact ih r e
theorem Nats.at {vs : List Value} {ns : List Nat} (h : Nats vs ns) {i : Nat} {v : Value} (e : vs[i]? = some v) : ∃ n t, ns[i]? = some n ∧ v = .int (n : Int) t := by
  have hi : i < vs.length := by
    rcases Nat.lt_or_ge i vs.length with h1 | h1
    · exact h1
    · rw [List.getElem?_eq_none h1] at e; cases e
  have hc : ns[i]? = some (ns[i]'(by rw [← Nats.length h]; exact hi)) := List.getElem?_eq_getElem _
  obtain ⟨t, e'⟩ := Nats.get h hc
  rw [e] at e'
  exact ⟨_, t, hc, Option.some.inj e'⟩
end Mine
namespace Mine
theorem off1_mem {D : Addr} : ∀ {l : Led}, LCg.Off1 D l → ∀ p ∈ l, p.1 ≠ D
  | [], _, _, h => nomatch h
  | _ :: _, x, p, h => by
    rcases List.mem_cons.mp h with rfl | h
    · exact x.1
    · exact off1_mem x.2 p h
theorem spots_hit {l s : List Nat} {n : Nat} (h : hitB l s n = true) : spotsN l s (n + 1) = spotsN l s n ++ [n] := by rw [spotsN_succ, if_pos h]
theorem spots_miss {l s : List Nat} {n : Nat} (h : hitB l s n = false) : spotsN l s (n + 1) = spotsN l s n := by rw [spotsN_succ, if_neg (by rw [h]; decide), List.append_nil]
end Mine
namespace Mine
theorem off1_of {D : Addr} : ∀ {l : Led}, (∀ p ∈ l, p.1 ≠ D) → LCg.Off1 D l
  | [], _ => trivial
  | p :: _, h => ⟨h p (.head _), off1_of fun q hq => h q (.tail _ hq)⟩
end Mine

end
noncomputable section
open PySem PySem.W PyProof.Rows PySem.Spec PySem.Calls
namespace Mine
def SpotsS (K : Params → Frag) : Prop := ∀ (w : World) (x y : Str) (t u : Tok) (news : Led), x.length ≤ 1000 → y.length ≤ 1000 →
  Fn K w 468 2 [.str x t, .str y u] news fun r n _ => ∃ D vs k, r = .ref D ∧ n = (D, listOf vs.toArray k) :: news ∧ Nats vs (spots x.cps.toList y.cps.toList) ∧ ∀ p ∈ news, p.1 ≠ D
end Mine
end
noncomputable section
open PySem PySem.W PyProof.Rows PySem.Spec PySem.Calls
namespace Mine
structure ApC where
  vs : List Value
  cap : Nat
  free : Int
  tf : Tok
/-- the greedy places of sought that do not overlap, among ks -/
noncomputable def apartL (s : List Nat) : List Nat → List Nat × Nat → List Nat × Nat
  | [], a => a
  | k :: ks, a => apartL s ks (if a.2 ≤ k then (a.1 ++ [k], k + s.length) else a)
theorem apartL_snoc (s : List Nat) : ∀ (ks : List Nat) (k : Nat) (a : List Nat × Nat), apartL s (ks ++ [k]) a = (let b := apartL s ks a; if b.2 ≤ k then (b.1 ++ [k], k + s.length) else b)
  | [], k, a => rfl
  | j :: ks, k, a => by
    show apartL s (ks ++ [k]) _ = _
    rw [apartL_snoc s ks k]; rfl
theorem apartL_len (s : List Nat) : ∀ (ks : List Nat) (a : List Nat × Nat), (apartL s ks a).1.length ≤ a.1.length + ks.length
  | [], a => Nat.le_refl _
  | k :: ks, a => by
    refine Nat.le_trans (apartL_len s ks _) ?_
    rw [List.length_cons]
    split
    · rw [List.length_append, List.length_singleton]; (first | lia | omega)
    · (first | lia | omega)
theorem apartL_free {B : Nat} (s : List Nat) : ∀ (ks : List Nat) (a : List Nat × Nat), (∀ k ∈ ks, k ≤ B) → a.2 ≤ B + s.length → (apartL s ks a).2 ≤ B + s.length
  | [], a, _, h => h
  | k :: ks, a, hk, h => by
    refine apartL_free s ks _ (fun j hj => hk j (.tail _ hj)) ?_
    have := hk k (.head _)
    split
    · show k + s.length ≤ _; (first | lia | omega)
    · exact h
theorem spots_le {l s : List Nat} : ∀ k ∈ spots l s, k ≤ l.length := by
  intro k hk
  unfold spots spotsN at hk
  have := (List.mem_range.mp (List.mem_filter.mp hk).1)
  (first | lia | omega)
def ApJ (FA : Addr) (B : Led) (s : List Nat) (ks : List Nat) (i : Nat) (c : ApC) (nx : Led) : Prop :=
  nx = (FA, listOf c.vs.toArray c.cap) :: B ∧ Nats c.vs (apartL s (ks.take i) ([], 0)).1 ∧ c.free = ((apartL s (ks.take i) ([], 0)).2 : Nat)
/-- the places where sought stands apart -/
def apart (l s : List Nat) : List Nat := (apartL s (spots l s) ([], 0)).1
def ApartS (K : Params → Frag) : Prop := ∀ (w : World) (x y : Str) (t u : Tok) (news : Led), x.length ≤ 1000 → y.length ≤ 1000 →
  Fn K w 475 4 [.str x t, .str y u] news fun r n _ => ∃ D vs k, r = .ref D ∧ n = (D, listOf vs.toArray k) :: news ∧ Nats vs (apart x.cps.toList y.cps.toList) ∧ ∀ p ∈ news, p.1 ≠ D
end Mine
end
noncomputable section
open PySem PySem.W PyProof.Rows PySem.Spec PySem.Calls
set_option Elab.async false
set_option maxRecDepth 100000
namespace Mine
/-- a box out of which at most c draws were made -/
def BoxO (sm : Bool) (c : Int) (o : Obj) : Prop := ∃ g sd c' t1 t2 t3 n, o = boxO g sd c' t1 t2 t3 sm n ∧ 0 ≤ g ∧ 0 ≤ sd ∧ sd < 2147483629 ∧ 0 ≤ c' ∧ c' ≤ c
theorem BoxO.mono {sm : Bool} {c d : Int} {o : Obj} (h : BoxO sm c o) (hd : c ≤ d) : BoxO sm d o := by
  obtain ⟨g, sd, c', t1, t2, t3, n, e, h1, h2, h3, h4, h5⟩ := h
  exact ⟨g, sd, c', t1, t2, t3, n, e, h1, h2, h3, h4, Int.le_trans h5 hd⟩
def Take2S (K : Params → Frag) : Prop := ∀ (w : World) (b : Addr) (o : Obj) (sm : Bool) (c : Int) (many : Int) (tm : Tok) (news : Led), BoxO sm c o → c < 1000000 → 0 < many → many < 1000 → (∀ p ∈ news, p.1 ≠ b) →
   Fn K w 434 1 [.ref b, .int many tm] ((b, o) :: news) fun r n _ => ∃ o', n = (b, o') :: news ∧ (BoxO sm (c + 1) o' ∧ ∃ d t, r = .int d t ∧ 0 ≤ d ∧ d < many)
theorem take2_of {K : Params → Frag} (S : TakeS K) : Take2S K := by
  intro w b o sm c many tm news hB hc hm hm' hoff
  obtain ⟨g, sd, c', t1, t2, t3, n, rfl, h1, h2, h3, h4, h5⟩ := hB
  have F := S w b g sd c' t1 t2 t3 sm n news many tm h1 h2 h3 h4 (by (first | lia | omega)) hm hm' hoff
  unfold Fn at F ⊢
  intro p loose mean mg mb dp un gd cn cs a ccd cl outer A₀ base h₀ L m s Q E B Fr' X N T hk hd hu hret
  refine F p loose mean mg mb dp un gd cn cs a ccd cl outer A₀ base h₀ L m s Q E B Fr' X N T hk hd hu ?_
  rintro r n' h' tk' F' N' ⟨d, t, g', c'', t1', t3', rfl, hd0, hd1, rfl, hg, hc1, hc2⟩
  exact hret _ _ _ _ F' N' ⟨_, rfl, ⟨g', sd, c'', t1', t2, t3', n, rfl, hg, h2, h3, by (first | lia | omega), by (first | lia | omega)⟩, d, t, rfl, hd0, hd1⟩
section
variable {K : Params → Frag} {w : World} {f : Addr} {k : Nat} {vs : List Value} {ledger : Led} {g : Obj → Led} {b : Addr} {o : Obj}
/-- a contract over a box that stands anywhere in the ledger -/
theorem Fn.useU {P : Value → Obj → Nat → Prop} (S : ∀ rest : Led, (∀ p ∈ rest, p.1 ≠ b) → Fn K w f k vs ((b, o) :: rest) fun r n tk => ∃ o', n = (b, o') :: rest ∧ P r o' tk)
    {p : Program} {loose : List Str} {mean : ExcName → Option Value} {mg mb : Str → Option Value}
    {dp un : Nat} {gd : Option (List Code)} {cn : Str} {cs : Scope} {a : Addr} {ccd : Value} {cl : List (Str × Addr)} {outer : List Env} {A₀ : Around} {base h₀ : Heap} {L : Addr} {m : Str → Option Value} {s : Shared} {hH : Heap} {tk : Nat}
    {Q E : Value → Shared → Prop} (B : Below A₀ base outer h₀) (F : Fr h₀ L hH m) (X : (K w.params).In h₀) (N : News h₀ L hH ledger) (U : UpdF b o ledger g) (T : Top p loose mean mg mb h₀) (hk : cs.kind = .function) (hd : dp + k < recursionLimit) (hu : un + 8 * k < cLine)
    (ret : ∀ r o' h' tk', tk ≤ tk' → Fr h₀ L h' m → let n' := g o'; News h₀ L h' n' → P r o' tk' → Q r { s with heap := h', toks := tk' }) :
    wpAny (model PySem.Challenge.rw_nz0043_01.row.toRowW.prog w) (ktrTop dp un gd cn cs L a ccd cl outer) (call (.ref f) vs) Q E { s with heap := hH, toks := tk } := by
  obtain ⟨pre, post, rfl, hg, h1, h2⟩ := U.split
  have hoff : ∀ p ∈ pre ++ post, p.1 ≠ b := fun p hp => (List.mem_append.mp hp).elim (h1 p) (h2 p)
  refine Fn.use (s := { s with heap := hH, toks := tk }) (S (pre ++ post) hoff) B F X (fun p hp => N p ?_) T hk hd hu ?_
  · simp only [List.mem_cons, List.mem_append] at hp ⊢
    rcases hp with h | h | h <;> simp only [h, true_or, or_true]
  · rintro r n h' tk' hle F' N' ⟨o', rfl, hP⟩
    refine ret r o' h' tk' hle F' (fun p hp => N' p ?_) hP
    rw [hg] at hp
    simp only [List.mem_cons, List.mem_append] at hp ⊢
    rcases hp with h | h | h <;> simp only [h, true_or, or_true]
/-- the same with new objects behind -/
theorem Fn.useE {P : Value → Obj → Led → Nat → Prop} (S : ∀ rest : Led, (∀ p ∈ rest, p.1 ≠ b) → Fn K w f k vs ((b, o) :: rest) fun r n tk => ∃ o' ex, n = (b, o') :: (rest ++ ex) ∧ Fresh ex ((b, o) :: rest) ∧ P r o' ex tk)
    {p : Program} {loose : List Str} {mean : ExcName → Option Value} {mg mb : Str → Option Value}
    {dp un : Nat} {gd : Option (List Code)} {cn : Str} {cs : Scope} {a : Addr} {ccd : Value} {cl : List (Str × Addr)} {outer : List Env} {A₀ : Around} {base h₀ : Heap} {L : Addr} {m : Str → Option Value} {s : Shared} {hH : Heap} {tk : Nat}
    {Q E : Value → Shared → Prop} (B : Below A₀ base outer h₀) (F : Fr h₀ L hH m) (X : (K w.params).In h₀) (N : News h₀ L hH ledger) (U : UpdF b o ledger g) (T : Top p loose mean mg mb h₀) (hk : cs.kind = .function) (hd : dp + k < recursionLimit) (hu : un + 8 * k < cLine)
    (ret : ∀ r o' ex h' tk', tk ≤ tk' → Fr h₀ L h' m → News h₀ L h' (g o' ++ ex) → Fresh ex ledger → P r o' ex tk' → Q r { s with heap := h', toks := tk' }) :
    wpAny (model PySem.Challenge.rw_nz0043_01.row.toRowW.prog w) (ktrTop dp un gd cn cs L a ccd cl outer) (call (.ref f) vs) Q E { s with heap := hH, toks := tk } := by
  obtain ⟨pre, post, rfl, hg, h1, h2⟩ := U.split
  have hoff : ∀ p ∈ pre ++ post, p.1 ≠ b := fun p hp => (List.mem_append.mp hp).elim (h1 p) (h2 p)
  refine Fn.use (s := { s with heap := hH, toks := tk }) (S (pre ++ post) hoff) B F X (fun p hp => N p ?_) T hk hd hu ?_
  · simp only [List.mem_cons, List.mem_append] at hp ⊢
    rcases hp with h | h | h <;> simp only [h, true_or, or_true]
  · rintro r n h' tk' hle F' N' ⟨o', ex, rfl, hF, hP⟩
    refine ret r o' ex h' tk' hle F' (fun p hp => N' p ?_) (fun p hp q hq => hF p hp q ?_) hP
    · rw [hg] at hp
      simp only [List.mem_cons, List.mem_append] at hp ⊢
      rcases hp with (h | h | h) | h <;> simp only [h, true_or, or_true]
    · simp only [List.mem_cons, List.mem_append] at hq ⊢
      rcases hq with h | h | h <;> simp only [h, true_or, or_true]
end
section
variable {K : Params → Frag} {w : World} {ledger : Led} {g : Obj → Led} {b : Addr} {o : Obj} {sm : Bool} {c : Int}
theorem take_use {many : Int} {tm : Tok} (S : Take2S K) (hB : BoxO sm c o) (hc : c < 1000000) (hm : 0 < many) (hm' : many < 1000)
    {p : Program} {loose : List Str} {mean : ExcName → Option Value} {mg mb : Str → Option Value}
    {dp un : Nat} {gd : Option (List Code)} {cn : Str} {cs : Scope} {a : Addr} {ccd : Value} {cl : List (Str × Addr)} {outer : List Env} {A₀ : Around} {base h₀ : Heap} {L : Addr} {m : Str → Option Value} {s : Shared} {hH : Heap} {tk : Nat}
    {Q E : Value → Shared → Prop} (B : Below A₀ base outer h₀) (F : Fr h₀ L hH m) (X : (K w.params).In h₀) (N : News h₀ L hH ledger) (U : UpdF b o ledger g) (T : Top p loose mean mg mb h₀) (hk : cs.kind = .function) (hd : dp + 1 < recursionLimit) (hu : un + 8 * 1 < cLine)
    (ret : ∀ o' d t h' tk', tk ≤ tk' → Fr h₀ L h' m → let n' := g o'; News h₀ L h' n' → BoxO sm (c + 1) o' → 0 ≤ d → d < many → Q (.int d t) { s with heap := h', toks := tk' }) :
    wpAny (model PySem.Challenge.rw_nz0043_01.row.toRowW.prog w) (ktrTop dp un gd cn cs L a ccd cl outer) (call (.ref 434) [.ref b, .int many tm]) Q E { s with heap := hH, toks := tk } :=
  Fn.useU (P := fun r o' _ => BoxO sm (c + 1) o' ∧ ∃ d t, r = .int d t ∧ 0 ≤ d ∧ d < many) (fun rest hoff => S w b o sm c many tm rest hB hc hm hm' hoff) B F X N U T hk hd hu fun r o' h' tk' hle F' N' ⟨hB', d, t, e, h1, h2⟩ => by
    subst e; exact ret o' d t h' tk' hle F' N' hB' h1 h2
end
/-- one part of a told set: its text, its signs -/
inductive Part : List Nat → List Nat → Prop
  | esc (c : Nat) : Part [92, c] [c]
  | rng (a b : Nat) : a ≠ 92 → a ≠ 45 → a ≠ 94 → a ≤ b → b ≤ a + 20000 → Part [a, 45, b] (rangeL a b)
  | one (a : Nat) : a ≠ 92 → a ≠ 45 → a ≠ 94 → Part [a] [a]
inductive Parts : List Nat → List Nat → Prop
  | nil : Parts [] []
  | cons {l m l' m' : List Nat} : Part l m → Parts l' m' → Parts (l ++ l') (m ++ m')
theorem Parts.snoc {l m l' m' : List Nat} (h : Parts l m) (k : Part l' m') : Parts (l ++ l') (m ++ m') := by
  induction h with
  | nil => have := Parts.cons k .nil; simpa using this
  | cons h1 _ ih => rw [List.append_assoc, List.append_assoc]; exact .cons h1 ih
theorem Part.head {l m : List Nat} (h : Part l m) : ∃ a r, l = a :: r ∧ a ≠ 45 ∧ a ≠ 94 := by
  cases h with
  | esc c => exact ⟨_, _, rfl, by decide, by decide⟩
  | rng a b _ h1 h2 => exact ⟨_, _, rfl, h1, h2⟩
  | one a _ h1 h2 => exact ⟨_, _, rfl, h1, h2⟩
theorem Parts.head {l m : List Nat} (h : Parts l m) : l = [] ∨ ∃ a r, l = a :: r ∧ a ≠ 45 ∧ a ≠ 94 := by
  cases h with
  | nil => exact .inl rfl
  | cons h1 _ => obtain ⟨a, r, rfl, h2⟩ := h1.head; exact .inr ⟨a, _, rfl, h2⟩
theorem Parts.spr {l m : List Nat} (h : Parts l m) : Spr l m := by
  induction h with
  | nil => exact .nil
  | @cons l m l' m' h1 h2 ih =>
    cases h1 with
    | esc c => exact .esc c ih
    | rng a b h1 h3 h4 h5 h6 => exact .rng a b h1 h5 h6 ih
    | one a h1 h3 h4 =>
      refine .one a (fun e => absurd e h1) ?_ ih
      intro b r' e
      rcases h2.head with e' | ⟨a', r, e', h', _⟩
      · rw [e'] at e; cases e
      · rw [e'] at e; exact h' (List.cons.inj e).1
theorem Parts.tel {l m : List Nat} (h : Parts l m) : TelL l false m := by
  refine .inr ⟨rfl, ?_, h.spr⟩
  intro r e
  rcases h.head with e' | ⟨a', r', e', _, h'⟩
  · rw [e'] at e; cases e
  · rw [e'] at e; exact absurd (List.cons.inj e).1 h'
theorem Parts.telT {l m : List Nat} (h : Parts l m) (hn : l ≠ []) : TelL (94 :: l) true m := .inl ⟨rfl, l, rfl, hn, h.spr⟩
end Mine
namespace Mine
section
variable {prog : Program} {w : World} {A : Around} {E : Value → Shared → Prop} {s : Shared}
/-- a sign of a text, at a place that is not written -/
theorem item_pick {value slice : Expr} {x : Str} {t u : Tok} {i : Int} {Q : Value → Shared → Prop} (h0 : 0 ≤ i) (h1 : i < x.length) (hx : x.length ≤ 1000)
    (h : ∀ c, c ∈ x.cps.toList → Q (.str (ch c) s.toks) { s with toks := s.toks + 1 })
    (hs : subscripted slice false (.str x t) (.int i u) = operate [.str x t, .int i u] (getItem (.str x t) (.int i u)) := by with_unfolding_all rfl)
    (ht : ∀ r, letTemporaryGo value (.str x t) r = pure () := by intro _; with_unfolding_all rfl) :
    wpAny (model prog w) A (subscriptTail value slice (.str x t) (.int i u)) Q E s := by
  refine KXi.item (n := x.length) rfl (by (first | lia | omega)) h1 (by (first | lia | omega)) (fun _ => ?_) hs ht
  obtain ⟨c, hc, e⟩ := (show ∃ c, (L x)[i.toNat]? = some c ∧ Txt.item x (i.toNat : Int) = ch c by
    have h' : i.toNat < (L x).length := by rw [L_len]; (first | lia | omega)
    exact ⟨_, List.getElem?_eq_getElem h', item_L x (List.getElem?_eq_getElem h')⟩)
  rw [show ((i.toNat : Nat) : Int) = i by (first | lia | omega)] at e
  rw [e]
  exact h c (List.mem_of_getElem? hc)
end
end Mine

end
noncomputable section
open PySem PySem.W PyProof.Rows PySem.Spec PySem.Calls
set_option Elab.async false
set_option maxRecDepth 100000
namespace Mine
section
variable {prog : Program} {w : World} {A : Around} {E : Value → Shared → Prop} {s : Shared} {h₀ : Heap} {L₀ : Addr} {m : Str → Option Value} {news : Led}
theorem add_led {M l : Addr} {vs us : List Value} {k k' : Nat} {Q : Value → Shared → Prop} {hH : Heap} {tk : Nat} (F : Fr h₀ L₀ hH m) (N : News h₀ L₀ hH news) (h1 : (M, listOf vs.toArray k) ∈ news) (h2 : (l, listOf us.toArray k') ∈ news) (hsz : vs.length + us.length ≤ 16777216)
    (h : ∀ D h', Fr h₀ L₀ h' m → let n' := (D, listOf (vs ++ us).toArray 0) :: news; News h₀ L₀ h' n' → AllLt D news → Q (.ref D) { s with heap := h', toks := tk }) :
    wpAny (model prog w) A (binaryOp .Add (.ref M) (.ref l)) Q E { s with heap := hH, toks := tk } :=
  add_arrays (s := { s with heap := hH, toks := tk }) (hsz := by rw [List.size_toArray, List.size_toArray, sizeLine_eq]; exact hsz) F N (News.isList N h1) (News.isList N h2) fun h' F' N' => h _ h' F' (by simpa using N') (allLt_of fun p hp => Heap.lt_size (N p hp).1)
theorem perm_two {α : Type} {a b : α} {l : List α} (h : l.Perm [a, b]) : l = [a, b] ∨ l = [b, a] := by
  have hl := h.length_eq
  match l, hl with
  | [p, q], _ =>
    have hp : p ∈ [a, b] := h.mem_iff.mp (.head _)
    rcases List.mem_cons.mp hp with rfl | hp
    · have := (List.perm_cons p).mp h
      left; rw [List.perm_singleton.mp this]
    · rw [List.mem_singleton] at hp
      subst hp
      have := (List.perm_cons p).mp (h.trans (List.Perm.swap p a []))
      right; rw [List.perm_singleton.mp this]
theorem sorted_two {l : Addr} {a b : Nat} {t u : Tok} {k : Nat} {Q : Value → Shared → Prop} (F : Fr h₀ L₀ s.heap m) (N : News h₀ L₀ s.heap news) (h1 : (l, listOf #[Value.str (ch a) t, Value.str (ch b) u] k) ∈ news)
    (h : ∀ D h' lo hi t' u' e, Fr h₀ L₀ h' m → let n' := (D, listOf #[Value.str (ch lo) t', Value.str (ch hi) u'] e) :: news; News h₀ L₀ h' n' → AllLt D news → lo ≤ hi → (lo = a ∧ hi = b ∨ lo = b ∧ hi = a) → Q (.ref D) { s with heap := h' }) :
    wpAny (model prog w) A (call (.builtin "sorted") [.ref l]) Q E s := by
  refine sorted_N_str (vs := [Value.str (ch a) t, Value.str (ch b) u]) (ss := [ch a, ch b]) F N (News.isList N h1) (.cons _ t (.cons _ u .nil)) (by simp) fun h' vs' ss' e F' N' hS hp hs => ?_
  have key : ∀ lo hi, ss' = [ch lo, ch hi] → (lo = a ∧ hi = b ∨ lo = b ∧ hi = a) → Q (.ref (s.heap.objs.size + 1)) { s with heap := h' } := by
    intro lo hi e' hab
    subst e'
    cases hS with
    | cons _ t' r => cases r with
      | cons _ u' r' =>
        cases r'
        refine h _ h' lo hi t' u' e F' N' (allLt_of fun p hp => Nat.lt_succ_of_lt (Heap.lt_size (N p hp).1)) ?_ hab
        have : ltCps [hi] [lo] = false := by
          simp only [sortedS, risingS, Bool.and_true, Bool.not_eq_true'] at hs
          simpa using hs
        simp [ltCps] at this
        omega
  rcases perm_two hp with e' | e'
  · exact key a b e' (.inl ⟨rfl, rfl⟩)
  · exact key b a e' (.inr ⟨rfl, rfl⟩)
end
end Mine

end
noncomputable section
open PySem PySem.W PyProof.Rows PySem.Spec PySem.Calls
set_option Elab.async false
set_option maxRecDepth 100000
namespace Mine
abbrev tup2O (x : Str) (t : Tok) (K : Addr) : Obj := { cls := .type "tuple", data := .seq #[.str x t, .ref K] }
structure PaC where
  wr : Str
  tw : Tok
  M : Addr
  vs : List Value
  k : Nat
  o : Obj
  ex : Led
def PaJ (b : Addr) (B : Led) (sm : Bool) (c0 : Int) (i : Nat) (c : PaC) (nx : Led) : Prop :=
  nx = (b, c.o) :: (B ++ c.ex) ∧ BoxO sm (c0 + 4 * i) c.o ∧ (c.M, listOf c.vs.toArray c.k) ∈ c.ex ∧ (∃ ms, Parts c.wr.cps.toList ms ∧ Chs c.vs ms ∧ ms.length ≤ 31 * i ∧ (∀ a ∈ ms, a < 200)) ∧ c.wr.length ≤ 3 * i ∧ (i ≠ 0 → c.wr.length ≠ 0) ∧ Fresh c.ex ((b, c.o) :: B)
/-- an alphabet: some signs, below 200 -/
def Alph (al : Str) : Prop := 0 < al.length ∧ al.length ≤ 10 ∧ ∀ c ∈ al.cps.toList, c < 200
theorem not3 {c : Nat} (h : (Builtin.Str.occurrences (Str.ofString "\\-^") (ch c) 0 (Str.ofString "\\-^").length 1).isEmpty = true) : c ≠ 92 ∧ c ≠ 45 ∧ c ≠ 94 := by
  have q := StrLaws.found_one (Str.ofString "\\-^") c
  have h' : (Builtin.Str.occurrences (Str.ofString "\\-^") (⟨#[c]⟩ : Str) 0 (Str.ofString "\\-^").length 1).isEmpty = true := h
  rw [h'] at q
  have hl : (Str.ofString "\\-^").cps.toList = [92, 45, 94] := by decide +kernel
  rw [hl] at q
  have q' : ¬ c ∈ [92, 45, 94] := by
    intro hm
    rw [decide_eq_true hm] at q
    cases q
  simp only [List.mem_cons, List.not_mem_nil, or_false, not_or] at q'
  exact q'
theorem Part.len {l m : List Nat} (h : Part l m) : l.length ≤ 3 ∧ l ≠ [] := by
  cases h <;> exact ⟨by simp, by simp⟩
theorem paJ_step {b M' : Addr} {rest ex own : Led} {sm : Bool} {c0 d : Int} {i : Nat} {wr wr' : Str} {tw : Tok} {vs us : List Value} {o9 : Obj} {ms pl pm : List Nat} (hP : Parts wr.cps.toList ms) (hC : Chs vs ms) (hml : ms.length ≤ 31 * i) (hm2 : ∀ a ∈ ms, a < 200) (hwl : wr.length ≤ 3 * i)
    (hp : Part pl pm) (hw : wr'.cps.toList = wr.cps.toList ++ pl) (hu : Chs us pm) (hpl : pm.length ≤ 31) (hp2 : ∀ a ∈ pm, a < 200) (hB : BoxO sm d o9) (hd : d ≤ c0 + 4 * (i + 1)) (hlt : b < M') (hall : AllLt M' (rest ++ ex ++ own)) :
    PaJ b rest sm c0 (i + 1) ⟨wr', tw, M', vs ++ us, 0, o9, [(M', listOf (vs ++ us).toArray 0)]⟩ ((b, o9) :: (rest ++ [(M', listOf (vs ++ us).toArray 0)])) := by
  obtain ⟨hl3, hne⟩ := hp.len
  have e1 : wr'.length = wr.length + pl.length := by rw [← L_len, ← L_len]; unfold L; rw [hw, List.length_append]
  have e2 : 0 < pl.length := List.length_pos_iff.mpr hne
  refine ⟨rfl, hB.mono (by simpa using hd), .head _, ⟨ms ++ pm, by dsimp only; rw [hw]; exact hP.snoc hp, hC.app hu, by rw [List.length_append]; (first | lia | omega), fun a ha => (List.mem_append.mp ha).elim (hm2 a) (hp2 a)⟩, by dsimp only; (first | lia | omega), fun _ => by dsimp only; (first | lia | omega), ?_⟩
  intro p hp q hq
  rw [List.mem_singleton.mp hp]
  rcases List.mem_cons.mp hq with rfl | hq
  · exact hlt
  · exact lt_of_allLt hall q (List.mem_append_left _ (List.mem_append_left _ hq))
theorem pa_turn {h₀ h' : Heap} {L : Addr} {m' m₀ : Str → Option Value} {x : Str} {stored : List Str} {ps : PaC → List (Str × Value)} {s₁ : Shared} {tk : Nat} {Q : Flow → Shared → Prop} {news' : Led} {b M' : Addr} {rest ex own : Led} {sm : Bool} {c0 : Int} {i : Nat} {wr' : Str} {tw : Tok} {vs us : List Value} {o9 o2 : Obj}
    (F : Fr h₀ L h' m') (N : News h₀ L h' news') (hmb : (b, o9) ∈ news') (hmM : (M', listOf (vs ++ us).toArray 0) ∈ news') (hmr : ∀ p ∈ rest, p ∈ news') (hmo : ∀ p ∈ own, p ∈ news') (hall : AllLt M' (rest ++ ex ++ own)) (hoff : OwnOff own (((b, o2) :: (rest ++ ex)).map (·.1)))
    (hp : ∀ p ∈ ps ⟨wr', tw, M', vs ++ us, 0, o9, [(M', listOf (vs ++ us).toArray 0)]⟩, m' p.1 = some p.2) (hr : ∀ z, z ≠ x → (∀ p ∈ ps ⟨wr', tw, M', vs ++ us, 0, o9, [(M', listOf (vs ++ us).toArray 0)]⟩, z ≠ p.1) → stored.contains z = false → m' z = m₀ z)
    (hJ : PaJ b rest sm c0 (i + 1) ⟨wr', tw, M', vs ++ us, 0, o9, [(M', listOf (vs ++ us).toArray 0)]⟩ ((b, o9) :: (rest ++ [(M', listOf (vs ++ us).toArray 0)]))) :
    TurnP h₀ L x ps stored m₀ (PaJ b rest sm c0 (i + 1)) own s₁ Q .next { s₁ with heap := h', toks := tk } := by
  refine TurnP.next _ _ F N ?_ hmo ?_ hp hr hJ
  · intro p hp
    simp only [List.mem_cons, List.mem_append, List.not_mem_nil, or_false] at hp
    rcases hp with h | h | h
    · exact h ▸ hmb
    · exact hmr p h
    · exact h ▸ hmM
  · refine ownoff_new hoff fun q hq => ?_
    simp only [List.mem_cons, List.mem_append, List.not_mem_nil, or_false] at hq
    rcases hq with h | h | h
    · left; rw [h]; exact .head _
    · left; exact .tail _ (List.mem_map.mpr ⟨q, List.mem_append_left _ h, rfl⟩)
    · right; rw [h]; exact fun p hp => lt_of_allLt hall p (List.mem_append_right _ hp)
theorem L_bs : (Str.ofString "\\").cps.toList = [92] := by decide +kernel
theorem L_dash : (Str.ofString "-").cps.toList = [45] := by decide +kernel
theorem L_none : (Str.ofString "").cps.toList = [] := by decide +kernel
theorem wr_esc (wr : Str) (c : Nat) : (wr ++ Str.ofString "\\" ++ ch c).cps.toList = wr.cps.toList ++ [92, c] := by
  have := L_app (wr ++ Str.ofString "\\") (ch c); have h2 := L_app wr (Str.ofString "\\")
  unfold L at this h2; rw [this, h2, L_bs, List.append_assoc]; rfl
theorem wr_one (wr : Str) (c : Nat) : (wr ++ Str.ofString "" ++ ch c).cps.toList = wr.cps.toList ++ [c] := by
  have := L_app (wr ++ Str.ofString "") (ch c); have h2 := L_app wr (Str.ofString "")
  unfold L at this h2; rw [this, h2, L_none, List.append_nil]
theorem wr_rng (wr : Str) (a c : Nat) : (wr ++ ch a ++ Str.ofString "-" ++ ch c).cps.toList = wr.cps.toList ++ [a, 45, c] := by
  have h1 := L_app (wr ++ ch a ++ Str.ofString "-") (ch c); have h2 := L_app (wr ++ ch a) (Str.ofString "-"); have h3 := L_app wr (ch a)
  unfold L at h1 h2 h3; rw [h1, h2, h3, L_dash]; simp
theorem chs_one {c : Nat} {t : Tok} : Chs [Value.str (ch c) t] [c] := Chs.snoc (vs := []) (cs := []) .nil
theorem rangeL_lt {a b : Nat} : ∀ c ∈ rangeL a b, c ≤ b := by
  intro c hc
  unfold rangeL at hc
  obtain ⟨j, hj, rfl⟩ := List.mem_map.mp hc
  have := List.mem_range.mp hj
  (first | lia | omega)
theorem al_two {lo hi a b : Nat} {l : List Nat} (h : lo = a ∧ hi = b ∨ lo = b ∧ hi = a) (ha : a ∈ l) (hb : b ∈ l) : lo ∈ l ∧ hi ∈ l := by
  rcases h with ⟨rfl, rfl⟩ | ⟨rfl, rfl⟩
  · exact ⟨ha, hb⟩
  · exact ⟨hb, ha⟩
end Mine
namespace Mine
/-- what parts of a told set hand back -/
def PartsR (sm : Bool) (c : Int) (r : Value) (o' : Obj) (ex : Led) (_ : Nat) : Prop :=
  BoxO sm (c + 15) o' ∧ ∃ T wr tw M vs k ms, r = .ref T ∧ (T, tup2O wr tw M) ∈ ex ∧ (M, listOf vs.toArray k) ∈ ex ∧ Parts wr.cps.toList ms ∧ Chs vs ms ∧ ms.length ≤ 100 ∧ (∀ a ∈ ms, a < 200) ∧ wr.length ≤ 9 ∧ wr.length ≠ 0
def PartsS (K : Params → Frag) : Prop := ∀ (w : World) (b : Addr) (o : Obj) (sm : Bool) (c : Int) (al : Str) (ta : Tok) (rest : Led), BoxO sm c o → c < 900000 → Alph al → (∀ p ∈ rest, p.1 ≠ b) →
  Fn K w 451 3 [.ref b, .str al ta] ((b, o) :: rest) fun r n tk => ∃ o' ex, n = (b, o') :: (rest ++ ex) ∧ Fresh ex ((b, o) :: rest) ∧ PartsR sm c r o' ex tk
section
variable {K : Params → Frag} {w : World} {ledger : Led} {g : Obj → Led} {b : Addr} {o : Obj} {sm : Bool} {c : Int}
theorem parts_use {al : Str} {ta : Tok} (S : PartsS K) (hB : BoxO sm c o) (hc : c < 900000) (hal : Alph al)
    {p : Program} {loose : List Str} {mean : ExcName → Option Value} {mg mb : Str → Option Value}
    {dp un : Nat} {gd : Option (List Code)} {cn : Str} {cs : Scope} {a : Addr} {ccd : Value} {cl : List (Str × Addr)} {outer : List Env} {A₀ : Around} {base h₀ : Heap} {L : Addr} {m : Str → Option Value} {s : Shared} {hH : Heap} {tk : Nat}
    {Q E : Value → Shared → Prop} (B : Below A₀ base outer h₀) (F : Fr h₀ L hH m) (X : (K w.params).In h₀) (N : News h₀ L hH ledger) (U : UpdF b o ledger g) (T : Top p loose mean mg mb h₀) (hk : cs.kind = .function) (hd : dp + 3 < recursionLimit) (hu : un + 8 * 3 < cLine)
    (ret : ∀ r o' ex h' tk', tk ≤ tk' → Fr h₀ L h' m → News h₀ L h' (g o' ++ ex) → Fresh ex ledger → PartsR sm c r o' ex tk' → Q r { s with heap := h', toks := tk' }) :
    wpAny (model PySem.Challenge.rw_nz0043_01.row.toRowW.prog w) (ktrTop dp un gd cn cs L a ccd cl outer) (call (.ref 451) [.ref b, .str al ta]) Q E { s with heap := hH, toks := tk } :=
  Fn.useE (fun rest hoff => S w b o sm c al ta rest hB hc hal hoff) B F X N U T hk hd hu ret
end
end Mine
namespace Mine
theorem al_two' {lo hi a b : Nat} {l : List Nat} (h : lo = a ∧ hi = b ∨ lo = b ∧ hi = a) (ha : a ∈ l) (hb : b ∈ l) : ∃ lo' hi', lo' = lo ∧ hi' = hi ∧ lo' ∈ l ∧ hi' ∈ l := ⟨lo, hi, rfl, rfl, al_two h ha hb⟩
end Mine
namespace Mine
section
variable {prog : Program} {w : World} {A : Around} {E : Value → Shared → Prop} {s : Shared}
/-- two short texts put together -/
theorem add_bd {x y : Str} {t u : Tok} {a b : Nat} {Q : Value → Shared → Prop} (hx : x.length ≤ a) (hy : y.length ≤ b) (hab : a + b ≤ 16777216) (h : ∀ t' k, (x ++ y).length ≤ a + b → Q (.str (x ++ y) t') { s with toks := k }) : wpAny (model prog w) A (binaryOp .Add (.str x t) (.str y u)) Q E s :=
  SBL.add (fun t' k hl => h t' k (by (first | lia | omega))) (by rw [PySem.sizeLine_eq]; (first | lia | omega))
end
end Mine

end
noncomputable section
open PySem PySem.W PyProof.Rows PySem.Spec PySem.Calls
namespace Mine
theorem pa_vs {d : Int} {i a b : Nat} (hd : d < 3) (hi : i < (1 + d).toNat) (h : a ≤ 31 * i) (e : b = a) : b ≤ 93 := by (first | lia | omega)
theorem pa_bd {c d : Int} {i : Nat} (h : c < 900000) (hd : d < 3) (hi : i < (1 + d).toNat) : c + 1 + 4 * (i : Int) < 900100 := by (first | lia | omega)
end Mine
end
noncomputable section
open PySem PySem.W PyProof.Rows PySem.Spec PySem.Calls
set_option Elab.async false
set_option maxRecDepth 100000
namespace Mine
/-- what a set hands back -/
def SetR (sm : Bool) (c : Int) (r : Value) (o' : Obj) (ex : Led) (_ : Nat) : Prop :=
  BoxO sm (c + 16) o' ∧ ∃ T x t bb M vs k ms, r = .ref T ∧ (T, tup3O x t bb M) ∈ ex ∧ (M, listOf vs.toArray k) ∈ ex ∧ Chs vs ms ∧ TelX x (bb, ms) ∧ x.length ≤ 10
def SetS (K : Params → Frag) : Prop := ∀ (w : World) (b : Addr) (o : Obj) (sm : Bool) (c : Int) (al : Str) (ta : Tok) (rest : Led), BoxO sm c o → c < 800000 → Alph al → (∀ p ∈ rest, p.1 ≠ b) →
  Fn K w 458 4 [.ref b, .str al ta] ((b, o) :: rest) fun r n tk => ∃ o' ex, n = (b, o') :: (rest ++ ex) ∧ Fresh ex ((b, o) :: rest) ∧ SetR sm c r o' ex tk
section
variable {K : Params → Frag} {w : World} {ledger : Led} {g : Obj → Led} {b : Addr} {o : Obj} {sm : Bool} {c : Int}
theorem set_use {al : Str} {ta : Tok} (S : SetS K) (hB : BoxO sm c o) (hc : c < 800000) (hal : Alph al)
    {p : Program} {loose : List Str} {mean : ExcName → Option Value} {mg mb : Str → Option Value}
    {dp un : Nat} {gd : Option (List Code)} {cn : Str} {cs : Scope} {a : Addr} {ccd : Value} {cl : List (Str × Addr)} {outer : List Env} {A₀ : Around} {base h₀ : Heap} {L : Addr} {m : Str → Option Value} {s : Shared} {hH : Heap} {tk : Nat}
    {Q E : Value → Shared → Prop} (B : Below A₀ base outer h₀) (F : Fr h₀ L hH m) (X : (K w.params).In h₀) (N : News h₀ L hH ledger) (U : UpdF b o ledger g) (T : Top p loose mean mg mb h₀) (hk : cs.kind = .function) (hd : dp + 4 < recursionLimit) (hu : un + 8 * 4 < cLine)
    (ret : ∀ r o' ex h' tk', tk ≤ tk' → Fr h₀ L h' m → News h₀ L h' (g o' ++ ex) → Fresh ex ledger → SetR sm c r o' ex tk' → Q r { s with heap := h', toks := tk' }) :
    wpAny (model PySem.Challenge.rw_nz0043_01.row.toRowW.prog w) (ktrTop dp un gd cn cs L a ccd cl outer) (call (.ref 458) [.ref b, .str al ta]) Q E { s with heap := hH, toks := tk } :=
  Fn.useE (fun rest hoff => S w b o sm c al ta rest hB hc hal hoff) B F X N U T hk hd hu ret
end
theorem fresh_cons {b D : Addr} {o o' : Obj} {x : Obj} {rest ex : Led} (h1 : b < D) (h2 : AllLt D (rest ++ ex)) (hF : Fresh ex ((b, o) :: rest)) : Fresh ((D, x) :: ex) ((b, o') :: rest) := by
  intro p hp q hq
  rcases List.mem_cons.mp hp with rfl | hp
  · rcases List.mem_cons.mp hq with rfl | hq
    · exact h1
    · exact lt_of_allLt h2 q (List.mem_append_left _ hq)
  · rcases List.mem_cons.mp hq with rfl | hq
    · exact hF p hp (b, o) (.head _)
    · exact hF p hp q (.tail _ hq)
theorem L_hat : (Str.ofString "^").cps.toList = [94] := by decide +kernel
theorem telx_plain {x : Str} {ms : List Nat} (hP : Parts x.cps.toList ms) (hml : ms.length ≤ 100) (hm2 : ∀ a ∈ ms, a < 200) (hw : x.length ≤ 9) : TelX x (false, ms) :=
  ⟨by omega, hP.tel, by show ms.length ≤ 100000; omega, fun c hc => Nat.lt_trans (hm2 c hc) (by decide)⟩
theorem telx_turned {x : Str} {ms : List Nat} (hP : Parts x.cps.toList ms) (hml : ms.length ≤ 100) (hm2 : ∀ a ∈ ms, a < 200) (hw : x.length ≤ 9) (h0 : x.length ≠ 0) : TelX (Str.ofString "^" ++ x) (true, ms) := by
  have e : (Str.ofString "^" ++ x).cps.toList = 94 :: x.cps.toList := by
    have := L_app (Str.ofString "^") x; unfold L at this; rw [this, L_hat]; rfl
  have hl : (Str.ofString "^" ++ x).length = x.length + 1 := by rw [← L_len, ← L_len]; unfold L; rw [e]; rfl
  refine ⟨by omega, ?_, by show ms.length ≤ 100000; omega, fun c hc => Nat.lt_trans (hm2 c hc) (by decide)⟩
  show TelL _ true ms
  rw [e]
  exact hP.telT (fun e0 => h0 (by rw [← L_len]; unfold L; rw [e0]; rfl))
end Mine
namespace Mine
theorem news_mid {h₀ h : Heap} {L : Addr} {p q : Addr × Obj} {rest ex : Led} (N : News h₀ L h (p :: q :: (rest ++ ex))) : News h₀ L h (q :: (rest ++ (p :: ex))) := cb_drop N fun r hr => by
  simp only [List.mem_cons, List.mem_append] at hr ⊢
  rcases hr with h | h | h | h <;> simp only [h, true_or, or_true]
end Mine

end
noncomputable section
open PySem PySem.W PyProof.Rows PySem.Spec PySem.Calls
set_option Elab.async false
set_option maxRecDepth 100000
namespace Mine
section
variable {prog : Program} {w : World} {A : Around} {E : Value → Shared → Prop} {s : Shared} {h₀ : Heap} {L : Addr} {m : Str → Option Value} {env : Env}
/-- the end of such a turn -/
inductive EndT (h₀ : Heap) (L : Addr) (m : Str → Option Value) (s : Shared) (I : Addr) (oI : Obj) (C : Addr) (oC : Obj) (D : Addr) (ys : List Value) (J : List Value → Led → Nat → Prop) (y : Value) : Shared → Prop
  | intro {h' : Heap} {tk' : Nat} {nw' : Led} (F : Fr h₀ L h' m) (N : News h₀ L h' ((I, oI) :: (C, oC) :: (D, LCg.lst ys) :: nw')) (off : LCg.Off3 I C D nw') (hJ : J (ys ++ [y]) nw' tk') : EndT h₀ L m s I oI C oC D ys J y { s with heap := h', toks := tk' }
/-- one turn of a comprehension that keeps its eye on the tokens given out -/
def TurnT (prog : Program) (w : World) (A : Around) (h₀ : Heap) (L : Addr) (m : Str → Option Value) (env : Env) (elt : Expr) (x : Str) (scope : Scope) (cl : List (Str × Addr)) (s : Shared) (a : Int) (n : Nat) (J : Nat → List Value → Led → Nat → Prop) : Prop :=
  ∀ i ys nw t I oI C oC D m₂ h tk (E' : Value → Shared → Prop), i < n → J i ys nw tk → LCg.NsObj oC m₂ → m₂ x = some (.int (a + (i : Nat)) t) → Fr h₀ L h m → News h₀ L h ((I, oI) :: (C, oC) :: (D, LCg.lst ys) :: nw) → LCg.Off3 I C D nw → ((@Ne Nat I C) ∧ (@Ne Nat I D) ∧ (@Ne Nat C D)) →
    wpAny (model prog w) A (eval elt (compEnvC scope cl C env)) (EndT h₀ L m { s with heap := h, toks := tk } I oI C oC D ys (J (i + 1))) E' { s with heap := h, toks := tk }

/-- the source of such a comprehension, a range -/
inductive SrcT (prog : Program) (w : World) (A : Around) (h₀ : Heap) (L : Addr) (m : Str → Option Value) (env : Env) (elt : Expr) (x : Str) (scope : Scope) (cl : List (Str × Addr)) (Q : Value → Shared → Prop) (s₁ : Shared) : Value → Prop
  | mk (r : Addr) (a b : Int) (t u v : Tok) (n : Nat) (news : Led) (J : Nat → List Value → Led → Nat → Prop) (F : Fr h₀ L s₁.heap m) (N : News h₀ L s₁.heap news) (hr : IsRange s₁.heap r a b 1 t u v) (hsm : Builtin.Range.small a b 1 = true) (hn : Builtin.Range.rangeSize a b 1 = ((n : Nat) : Int)) (hsz : n ≤ sizeLine)
      (hm : ∀ i ys nw tk tk', J i ys nw tk → tk ≤ tk' → J i ys nw tk') (h0 : J 0 [] news s₁.toks) (turn : ∀ g, TurnT prog w A h₀ L m env elt x scope cl { s₁ with heap := g } a n J)
      (fin : ∀ ys nw D h' tk, J n ys nw tk → Fr h₀ L h' m → News h₀ L h' ((D, LCg.lst ys) :: nw) → LCg.Off1 D nw → Q (.ref D) { s₁ with heap := h', toks := tk }) : SrcT prog w A h₀ L m env elt x scope cl Q s₁ (.ref r)
/-- what holds between two turns -/
inductive InvT (h₀ : Heap) (L : Addr) (m : Str → Option Value) (s : Shared) (I C D : Addr) (a : Int) (n : Nat) (J : Nat → List Value → Led → Nat → Prop) : Nat → Shared → Prop
  | mk (h' : Heap) (tk i : Nat) (ys : List Value) (m' : Str → Option Value) (nw : Led) (hi : i ≤ n) (hl : ys.length = i) (hR : IsRangeIter h' I (a + (i : Nat) * 1) ((n : Int) - (i : Nat)) 1) (F : Fr h₀ L h' m) (hC : h'.Ns C m') (N : News h₀ L h' ((D, LCg.lst ys) :: nw)) (off : LCg.Off3 I C D nw) (hJ : J i ys nw tk) :
      InvT h₀ L m s I C D a n J (n + 1 - i) { s with heap := h', toks := tk }
theorem comp_tok (_F₀ : Fr h₀ L s.heap m) {elt iter : Expr} {x : Str} {px : Pos} {scope : Scope} {cl : List (Str × Addr)} {pos : Pos} {Q : Value → Shared → Prop}
    (hclos : closureFor scope env = pure cl) (hcell : ∀ y ∈ scope.names, y.2 ≠ .cell) (hkind : scope.kind = .function)
    (hnames : ∀ y ∈ scope.names, y.2 = .local → scope.names.lookup y.1 = some .local) (hx : scope.names.lookup x = some .local) (hh : A.handled = none)
    (h : wpAny (model prog w) A (eval iter env) (fun xv s₁ => s.toks ≤ s₁.toks → SrcT prog w A h₀ L m env elt x scope cl Q s₁ xv) (fun e s₁ => s.toks ≤ s₁.toks → E e s₁) s)
    (hs : ∀ x, foldedSetIterable iter env x = pure x := by intro _; rfl) :
    wpAny (model prog w) A (eval (.ListComp elt [⟨.Name x px, iter, [], 0⟩] scope pos) env) Q E s := by
  rw [eval_ListComp]
  refine wpAny_comprehension_free (use := none) rfl hs hclos hkind hnames (wpAny_with_toks (Nat.le_refl _) (wpAny_mono h (fun xv s₁ h₁ hle₁ => ?_) fun _ _ e => e))
  obtain ⟨r, a, b, t, u, v, n, news, J, F, N, hr, hsm, hn, hsz, hmono, hJ0, turn, fin⟩ := h₁ hle₁
  refine wpAny_pyIter_range hr hsm ?_
  have W := LCg.range_walks (prog := prog) (w := w) (I := s₁.heap.objs.size) hh a n
  -- the three new objects: the iterator, the list, the names
  have hI2 : IsRangeIter (s₁.heap.push { cls := .type "range_iterator", data := .fields #[rawInt a, rawInt (Builtin.Range.rangeSize a b 1), rawInt 1] }) s₁.heap.objs.size (a + ((0 : Nat) : Int) * 1) ((n : Int) - ((0 : Nat) : Int)) 1 := by
    show IsRangeIter _ _ _ _ _
    rw [hn]; simpa using Heap.get?_push_size _ rfl
  have F2 := F.push (o := { cls := .type "range_iterator", data := .fields #[rawInt a, rawInt (Builtin.Range.rangeSize a b 1), rawInt 1] })
  have N2 : News h₀ L (s₁.heap.push { cls := .type "range_iterator", data := .fields #[rawInt a, rawInt (Builtin.Range.rangeSize a b 1), rawInt 1] }) news := N.grown fun _ _ e => Heap.get?_push_of_some _ e
  have hz2 : (s₁.heap.push { cls := .type "range_iterator", data := .fields #[rawInt a, rawInt (Builtin.Range.rangeSize a b 1), rawInt 1] }).objs.size = s₁.heap.objs.size + 1 := Heap.size_push ..
  have hIL : L ≠ s₁.heap.objs.size := Nat.ne_of_lt F.ns.lt
  have hLI := F.ns.lt
  have hI₀ : h₀.get? s₁.heap.objs.size = none := next_is_new F
  have hnI : ∀ p ∈ news, p.1 < s₁.heap.objs.size := fun p hp => Heap.lt_size (N p hp).1
  generalize s₁.heap.push { cls := .type "range_iterator", data := .fields #[rawInt a, rawInt (Builtin.Range.rangeSize a b 1), rawInt 1] } = H at hI2 F2 N2 hz2 ⊢
  refine wpAny_newObj_type (wpAny_newFunctionEnv hcell (by intro y hy; simp at hy) (fun h₁ hns₁ hsb₁ => ?_) hkind)
  dsimp only at hns₁ hsb₁ ⊢
  have hC : (H.push { cls := .type "list", dict := none, data := .seq ([] : List Value).toArray }).objs.size = H.objs.size + 1 := Heap.size_push ..
  have hD1 : (H.push { cls := .type "list", dict := none, data := .seq ([] : List Value).toArray }).get? H.objs.size = some (LCg.lst []) := Heap.get?_push_size _ rfl
  have up : ∀ b o, H.get? b = some o → (H.push { cls := .type "list", dict := none, data := .seq ([] : List Value).toArray }).get? b = some o := fun b o e => Heap.get?_push_of_some _ e
  generalize H.push { cls := .type "list", dict := none, data := .seq ([] : List Value).toArray } = G at hC hD1 up hns₁ hsb₁ ⊢
  have new₀ : ∀ c, s₁.heap.objs.size ≤ c → h₀.get? c = none := fun c hc => by
    cases e : h₀.get? c with
    | none => rfl
    | some o => exact absurd (Heap.lt_size (F.keep c o e)) (Nat.not_lt.mpr hc)
  obtain ⟨I, hI⟩ : ∃ I, I = s₁.heap.objs.size := ⟨_, rfl⟩
  obtain ⟨D, hD⟩ : ∃ D, D = H.objs.size := ⟨_, rfl⟩
  obtain ⟨C, hCe⟩ : ∃ C, C = G.objs.size := ⟨_, rfl⟩
  rw [← hI] at hI2 hz2 hIL hLI hI₀ hnI W new₀
  rw [← hD] at hz2 hC hD1
  rw [← hCe] at hC hns₁ hsb₁
  have hDI : @Ne Nat I D := by rw [hz2]; exact Nat.ne_of_lt (Nat.lt_succ_self _)
  have hCI : @Ne Nat I C := by rw [hC, hz2]; exact Nat.ne_of_lt (Nat.lt_succ_of_lt (Nat.lt_succ_self _))
  have hCD : @Ne Nat C D := by rw [hC]; exact Nat.ne_of_gt (Nat.lt_succ_self _)
  have hLD : L ≠ D := Nat.ne_of_lt (by rw [hz2]; exact Nat.lt_succ_of_lt hLI)
  have hLC : L ≠ C := Nat.ne_of_lt (by rw [hC, hz2]; exact Nat.lt_succ_of_lt (Nat.lt_succ_of_lt hLI))
  have hD₀ : h₀.get? D = none := new₀ D (by rw [hz2]; exact Nat.le_succ _)
  have hC₀ : h₀.get? C = none := new₀ C (by rw [hC, hz2]; exact Nat.le_succ_of_le (Nat.le_succ _))
  have old : ∀ b o, b < C → G.get? b = some o → h₁.get? b = some o := fun b o hb e => hsb₁.extBut b o (Nat.ne_of_lt hb) (Heap.get?_push_of_some _ e)
  have oldH : ∀ b o, H.get? b = some o → h₁.get? b = some o := fun b o e => old b o (by have := Heap.lt_size e; rw [hC, hD]; exact Nat.lt_succ_of_lt this) (up b o e)
  have hD2 : h₁.get? D = some (LCg.lst []) := old D _ (by rw [hC]; exact Nat.lt_succ_self _) hD1
  have off₀ : LCg.Off3 I C D news := LCg.Off3.of fun p hp => by
    have h1 := hnI p hp
    refine ⟨Nat.ne_of_lt h1, Nat.ne_of_lt ?_, Nat.ne_of_lt ?_⟩
    · rw [hC, hz2]; exact Nat.lt_succ_of_lt (Nat.lt_succ_of_lt h1)
    · rw [hz2]; exact Nat.lt_succ_of_lt h1
  have hI1 : IsRangeIter h₁ I (a + ((0 : Nat) : Int) * 1) ((n : Int) - ((0 : Nat) : Int)) 1 := oldH _ _ hI2
  have F1 : Fr h₀ L h₁ m := F2.keeps oldH
  have N1 : News h₀ L h₁ ((D, LCg.lst []) :: news) := fun p hp => by
    rcases List.mem_cons.mp hp with rfl | hp
    · exact ⟨hD2, Ne.symm hLD, hD₀⟩
    · exact ⟨oldH _ _ (N2 p hp).1, (N2 p hp).2⟩
  have loop : ∀ s₃ : Shared, s₃ = { s₁ with heap := h₁, toks := s₁.toks + ([] : List (Str × Value)).length } →
      codeAny (model prog w) A (.compLoop (.ListComp elt [⟨.Name x px, iter, [], 0⟩] scope pos) 0 (.ref I) (.ref D) (compEnvC scope cl C env)) (compPost (model prog w) A E none Q (.ref D) C) s₃ := by
    rintro s₃ rfl
    refine codeAny_compLoop_tests
      (InvT h₀ L m s₁ I C D a n J) ?_ (n + 1) (.mk h₁ _ 0 [] _ news (Nat.zero_le _) rfl hI1 F1 hns₁ N1 off₀ (hmono _ _ _ _ _ hJ0 (Nat.le_add_right _ _)))
    rintro _ _ ⟨h', tk, i, ys, m', nw, hi, hyl, hst', F', hn', N', off', hJ⟩
    have off3 := off'.mem
    by_cases hlt : i < n
    · refine wpAny_with_toks (Nat.le_refl _) (W.item i _ _ _ hlt hst' fun v h₂ tk₂ hPv hst₂ hk₂ hle₂ => ?_)
      obtain ⟨tv, rfl⟩ := hPv
      dsimp only at hle₂
      have keep₂ : ∀ b o, @Ne Nat b I → h'.get? b = some o → h₂.get? b = some o := fun b o hb e => hk₂ b o (fun hm => hb (List.mem_singleton.mp hm)) e
      refine wpAny_assign_Name (wpAny_storeName_local (lookup_relabel_local hx) (hn'.at' fun o e => keep₂ C o (Ne.symm hCI) e) (fun h₃ hn₃ hs₃ => ?_) (by simp [compEnvC, relabel, hkind]))
      refine wpAny_tests_nil ?_
      simp only [if_true]
      have keep₃ : ∀ b o, @Ne Nat b C → h₂.get? b = some o → h₃.get? b = some o := fun b o hb e => hs₃.extBut b o hb e
      have hst₃ : IsRangeIter h₃ I (a + ((i + 1 : Nat) : Int) * 1) ((n : Int) - ((i + 1 : Nat) : Int)) 1 := keep₃ I _ hCI hst₂
      obtain ⟨oC, heC, hoC⟩ := LCg.ns_obj hn₃
      have F₃ : Fr h₀ L h₃ m := (LCg.fr_but F' hk₂ hIL hI₀).change hs₃ (Ne.symm hLC) hC₀
      have N₃ : News h₀ L h₃ ((I, _) :: (C, oC) :: (D, LCg.lst ys) :: nw) := fun p hp => by
        rcases List.mem_cons.mp hp with rfl | hp
        · exact ⟨hst₃, Ne.symm hIL, hI₀⟩
        · rcases List.mem_cons.mp hp with rfl | hp
          · exact ⟨heC, Ne.symm hLC, hC₀⟩
          · have z := N' p hp
            rcases List.mem_cons.mp hp with rfl | hp
            · exact ⟨keep₃ D _ (Ne.symm hCD) (keep₂ D _ (Ne.symm hDI) z.1), z.2⟩
            · exact ⟨keep₃ _ _ (off3 p hp).2.1 (keep₂ _ _ (off3 p hp).1 z.1), z.2⟩
      refine wpAny_mono (turn h₁ i ys nw tv I _ C oC D _ h₃ (tk₂ + 1) _ hlt (hmono _ _ _ _ _ hJ (Nat.le_succ_of_le hle₂)) hoC (by simp) F₃ N₃ off' ⟨hCI, hDI, hCD⟩) (fun y s₄ h₄ => ?_) fun _ _ e => e
      obtain @⟨h₄, tk₄, nw₄, F₄, N₄, off₄, hJ₄⟩ := h₄
      have off4 := off₄.mem
      have zI := (N₄ (I, _) (.head _)).1
      have zC := (N₄ (C, oC) (.tail _ (.head _))).1
      have zD := (N₄ (D, LCg.lst ys) (.tail _ (.tail _ (.head _)))).1
      refine append_at (hsz := by show ys.toArray.size ≤ sizeLine; rw [List.size_toArray, hyl]; exact Nat.le_trans hi hsz) zD fun h₅ hs₅ hD₅ => ?_
      have keep₅ : ∀ b o, @Ne Nat b D → h₄.get? b = some o → h₅.get? b = some o := fun b o hb e => hs₅.extBut b o hb e
      refine ⟨n + 1 - (i + 1), by (first | lia | omega), .mk h₅ tk₄ (i + 1) (ys ++ [y]) _ nw₄ hlt (by rw [List.length_append, List.length_singleton, hyl]) (keep₅ I _ hDI zI) (F₄.change hs₅ (Ne.symm hLD) hD₀) ((hoC.ns zC).sameBut hs₅ hCD) (fun p hp => ?_) off₄ hJ₄⟩
      rcases List.mem_cons.mp hp with rfl | hp
      · exact ⟨hD₅.trans (congrArg some (LCg.lst_snoc ys y)), Ne.symm hLD, hD₀⟩
      · have z := N₄ p (.tail _ (.tail _ (.tail _ hp)))
        exact ⟨keep₅ _ _ (off4 p hp).2.2 z.1, z.2⟩
    · obtain rfl : i = n := Nat.le_antisymm hi (Nat.not_lt.mp hlt)
      refine wpAny_with_toks (Nat.le_refl _) (W.done _ _ _ hst' fun h₂ tk₂ hk₂ hle₂ => ?_)
      dsimp only at hle₂
      have keep₂ : ∀ b o, @Ne Nat b I → h'.get? b = some o → h₂.get? b = some o := fun b o hb e => hk₂ b o (fun hm => hb (List.mem_singleton.mp hm)) e
      have F₂ := LCg.fr_but F' hk₂ hIL hI₀
      refine ⟨m', hn'.at' fun o e => keep₂ C o (Ne.symm hCI) e, fun h'' hs'' => fin ys nw D h'' tk₂ (hmono _ _ _ _ _ hJ hle₂) (F₂.change hs'' (Ne.symm hLC) hC₀) (fun p hp => ?_) off'.one⟩
      have z := N' p hp
      rcases List.mem_cons.mp hp with rfl | hp
      · exact ⟨hs''.extBut _ _ (Ne.symm hCD) (keep₂ D _ (Ne.symm hDI) z.1), z.2⟩
      · exact ⟨hs''.extBut _ _ (off3 p hp).2.1 (keep₂ _ _ (off3 p hp).1 z.1), z.2⟩
  subst hI hD hCe
  exact codeAny_compStart_list (loop _ rfl) (W.self 0 _ _ _ hI1 (loop _ rfl))
end
end Mine
namespace Mine
section
variable {prog : Program} {w : World} {A : Around} {E : Value → Shared → Prop} {s : Shared} {h₀ : Heap} {L₀ : Addr} {news : Led}
/-- the token of a joined text is below those to come -/
theorem call_join_tok {D : Addr} {ys : List Value} {cap : Nat} {cs : List Nat} {t : Tok} {Q : Value → Shared → Prop} (N : News h₀ L₀ s.heap news) (hm : (D, listOf ys.toArray cap) ∈ news) (hc : Chs ys cs) (hb : cs.length ≤ 100000)
    (h0 : 0 < s.toks) (hy : ∀ v ∈ ys, ∃ x u, v = Value.str x u ∧ 0 < u ∧ u < s.toks)
    (h : ∀ t' k, s.toks ≤ k → 0 < t' → t' < k → Q (.str (S cs) t') { s with toks := k }) : wpAny (model prog w) A (call (.builtin "str.join") [.str (Str.ofString "") t, .ref D]) Q E s := by
  have hl := News.isList N hm
  obtain ⟨l, hv, ht⟩ := strsAre_values hc
  have hok := joinOk_of (sep := Str.ofString "") (ys := cs.map ch) (by rw [sum_ch, List.length_map, show (Str.ofString "").length = 0 by decide +kernel]; (first | lia | omega))
  rw [← ht] at hok
  have e : Txt.join (Str.ofString "") (l.map (·.1)) = S cs := by rw [ht]; unfold Txt.join; first | exact join_chs cs | exact (PySem.StrLaws.glued_eq_join _ _).trans (join_chs cs)
  subst hv
  unfold JoinOk at hok
  rw [Bool.not_eq_true'] at hok
  refine call_meets F.slot_str_join (typeIs_str _ _ _) F.entry_str_join (F.args_str_join_2 _ _) (meets_str_join_list _ t D l hok) ⟨hl, ?_⟩
  have hlen := joinFit_length hok
  rw [e] at hlen
  match l, e, hlen, hy with
  | [], e, hlen, _ => 
    refine ⟨by rw [← e] at hlen; exact hlen, ?_⟩
    have := h s.toks (s.toks + 1) (Nat.le_succ _) h0 (Nat.lt_succ_self _)
    rw [← e] at this; exact this
  | [p], e, hlen, hy =>
    obtain ⟨x, u, e1, hu0, hu⟩ := hy (.str p.1 p.2) (.head _)
    cases e1
    have := h p.2 s.toks (Nat.le_refl _) hu0 hu
    rw [← e] at this; exact this
  | p :: q :: r, e, hlen, _ =>
    refine ⟨by rw [← e] at hlen; exact hlen, ?_⟩
    have := h s.toks (s.toks + 1) (Nat.le_succ _) h0 (Nat.lt_succ_self _)
    rw [← e] at this; exact this
end
end Mine
namespace Mine
/-- what is drawn: a text of the alphabet's signs, its token below those to come -/
def DrawnR (sm : Bool) (c : Int) (al : Str) (many : Int) (r : Value) (o' : Obj) (tk : Nat) : Prop :=
  BoxO sm (c + 101) o' ∧ ∃ l t, r = .str (S l) t ∧ (l.length : Int) < many ∧ (∀ x ∈ l, x ∈ al.cps.toList) ∧ 0 < t ∧ t < tk
def DrawnS (K : Params → Frag) : Prop := ∀ (w : World) (b : Addr) (o : Obj) (sm : Bool) (c : Int) (al : Str) (ta : Tok) (many : Int) (tm : Tok) (rest : Led), BoxO sm c o → c < 800000 → Alph al → 0 < many → many ≤ 100 → (∀ p ∈ rest, p.1 ≠ b) →
  Fn K w 446 3 [.ref b, .str al ta, .int many tm] ((b, o) :: rest) fun r n tk => ∃ o', n = (b, o') :: rest ∧ DrawnR sm c al many r o' tk
section
variable {K : Params → Frag} {w : World} {ledger : Led} {g : Obj → Led} {b : Addr} {o : Obj} {sm : Bool} {c : Int}
theorem drawn_use {al : Str} {ta : Tok} {many : Int} {tm : Tok} (S : DrawnS K) (hB : BoxO sm c o) (hc : c < 800000) (hal : Alph al) (hm : 0 < many) (hm' : many ≤ 100)
    {p : Program} {loose : List Str} {mean : ExcName → Option Value} {mg mb : Str → Option Value}
    {dp un : Nat} {gd : Option (List Code)} {cn : Str} {cs : Scope} {a : Addr} {ccd : Value} {cl : List (Str × Addr)} {outer : List Env} {A₀ : Around} {base h₀ : Heap} {L : Addr} {m : Str → Option Value} {s : Shared} {hH : Heap} {tk : Nat}
    {Q E : Value → Shared → Prop} (B : Below A₀ base outer h₀) (F : Fr h₀ L hH m) (X : (K w.params).In h₀) (N : News h₀ L hH ledger) (U : UpdF b o ledger g) (T : Top p loose mean mg mb h₀) (hk : cs.kind = .function) (hd : dp + 3 < recursionLimit) (hu : un + 8 * 3 < cLine)
    (ret : ∀ r o' h' tk', tk ≤ tk' → Fr h₀ L h' m → let n' := g o'; News h₀ L h' n' → DrawnR sm c al many r o' tk' → Q r { s with heap := h', toks := tk' }) :
    wpAny (model PySem.Challenge.rw_nz0043_01.row.toRowW.prog w) (ktrTop dp un gd cn cs L a ccd cl outer) (call (.ref 446) [.ref b, .str al ta, .int many tm]) Q E { s with heap := hH, toks := tk } :=
  Fn.useU (fun rest hoff => S w b o sm c al ta many tm rest hB hc hal hm hm' hoff) B F X N U T hk hd hu ret
end
def DrJ (w1 : Addr × Obj) (w2 : Addr × Obj) (b : Addr) (rest : Led) (sm : Bool) (c : Int) (al : Str) (i : Nat) (ys : List Value) (nw : Led) (tk : Nat) : Prop :=
  ∃ o' l, nw = w1 :: w2 :: (b, o') :: rest ∧ BoxO sm (c + i) o' ∧ Chs ys l ∧ l.length = i ∧ (∀ x ∈ l, x ∈ al.cps.toList) ∧ (∀ v ∈ ys, ∃ x u, v = Value.str x u ∧ 0 < u ∧ u < tk) ∧ 0 < tk
theorem DrJ.mono {w1 w2 : Addr × Obj} {b : Addr} {rest : Led} {sm : Bool} {c : Int} {al : Str} : ∀ i ys nw tk tk', DrJ w1 w2 b rest sm c al i ys nw tk → tk ≤ tk' → DrJ w1 w2 b rest sm c al i ys nw tk' := by
  rintro i ys nw tk tk' ⟨o', l, e, h1, h2, h3, h4, h5, h6⟩ h
  exact ⟨o', l, e, h1, h2, h3, h4, fun v hv => let ⟨x, u, e, a, b⟩ := h5 v hv; ⟨x, u, e, a, Nat.lt_of_lt_of_le b h⟩, Nat.lt_of_lt_of_le h6 h⟩
theorem DrJ.step {w1 w2 : Addr × Obj} {b : Addr} {rest : Led} {sm : Bool} {c : Int} {al : Str} {i : Nat} {ys : List Value} {l : List Nat} {o' : Obj} {tk tk' cc : Nat} {u : Tok} (h2 : Chs ys l) (h3 : l.length = i) (h4 : ∀ x ∈ l, x ∈ al.cps.toList) (h5 : ∀ v ∈ ys, ∃ x u, v = Value.str x u ∧ 0 < u ∧ u < tk)
    (hB : BoxO sm (c + i + 1) o') (hc : cc ∈ al.cps.toList) (hu : 0 < u) (hu' : u < tk') (htk : tk ≤ tk') : DrJ w1 w2 b rest sm c al (i + 1) (ys ++ [Value.str (ch cc) u]) (w1 :: w2 :: (b, o') :: rest) tk' := by
  refine ⟨o', l ++ [cc], rfl, hB.mono (by (first | lia | omega)), h2.snoc, by rw [List.length_append, h3]; rfl, fun x hx => ?_, fun v hv => ?_, Nat.lt_of_le_of_lt (Nat.zero_le _) hu'⟩
  · rcases List.mem_append.mp hx with h | h
    · exact h4 x h
    · rw [List.mem_singleton.mp h]; exact hc
  · rcases List.mem_append.mp hv with h | h
    · obtain ⟨x, u, e, a, b⟩ := h5 v h; exact ⟨x, u, e, a, Nat.lt_of_lt_of_le b htk⟩
    · rw [List.mem_singleton.mp h]; exact ⟨_, _, rfl, hu, hu'⟩
end Mine
namespace Mine
theorem DrJ.start {w1 w2 : Addr × Obj} {b : Addr} {rest : Led} {sm : Bool} {c : Int} {al : Str} {o : Obj} {tk : Nat} (h : BoxO sm c o) (h0 : 0 < tk) : DrJ w1 w2 b rest sm c al 0 [] (w1 :: w2 :: (b, o) :: rest) tk :=
  ⟨o, [], rfl, h.mono (by (first | lia | omega)), .nil, rfl, List.forall_mem_nil _, List.forall_mem_nil _, h0⟩
end Mine
namespace Mine
section
variable {prog : Program} {w : World} {A : Around} {h₀ : Heap} {L : Addr} {m : Str → Option Value} {env : Env}
theorem SrcT.draw {elt : Expr} {x : Str} {scope : Scope} {cl : List (Str × Addr)} {Q : Value → Shared → Prop} {s₁ : Shared} {r : Addr} {d : Int} {t u v : Tok} {w1 w2 : Addr × Obj} {b : Addr} {o : Obj} {rest : Led} {sm : Bool} {c : Int} {al : Str}
    (F : Fr h₀ L s₁.heap m) (N : News h₀ L s₁.heap (w1 :: w2 :: (b, o) :: rest)) (hr : IsRange s₁.heap r 0 d 1 t u v) (h0 : 0 ≤ d) (h1 : d ≤ 100) (hB : BoxO sm c o) (htk : 0 < s₁.toks)
    (turn : ∀ g, TurnT prog w A h₀ L m env elt x scope cl { s₁ with heap := g } 0 d.toNat (DrJ w1 w2 b rest sm c al))
    (fin : ∀ ys nw D h' tk, DrJ w1 w2 b rest sm c al d.toNat ys nw tk → Fr h₀ L h' m → News h₀ L h' ((D, LCg.lst ys) :: nw) → LCg.Off1 D nw → Q (.ref D) { s₁ with heap := h', toks := tk }) : SrcT prog w A h₀ L m env elt x scope cl Q s₁ (.ref r) :=
  ⟨r, 0, d, t, u, v, d.toNat, _, DrJ w1 w2 b rest sm c al, F, N, hr, range_ok (by (first | lia | omega)) (by (first | lia | omega)) (by (first | lia | omega)) (by (first | lia | omega)), by rw [rangeSize_nat]; (first | lia | omega), by rw [PySem.sizeLine_eq]; (first | lia | omega), DrJ.mono, DrJ.start hB htk, turn, fin⟩
end
end Mine

end
noncomputable section
open PySem PySem.W PyProof.Rows PySem.Spec PySem.Calls
namespace Mine
theorem dr_i {i : Nat} {d m : Int} (h : i < d.toNat) (hd : d < m) (hm : m ≤ 100) : (i : Int) < 100 := by (first | lia | omega)
theorem dr_bd {c : Int} {i : Nat} (h : c < 800000) (hi : (i : Int) < 100) : c + 1 + (i : Int) < 900000 := by (first | lia | omega)
end Mine
end
noncomputable section
open PySem PySem.W PyProof.Rows PySem.Spec PySem.Calls
set_option Elab.async false
set_option maxRecDepth 100000
namespace Mine
section
variable {prog : Program} {w : World} {A : Around} {E : Value → Shared → Prop} {s : Shared} {h₀ : Heap} {L : Addr} {m : Str → Option Value} {env : Env}
/-- the end of a turn over numbered signs -/
inductive EndE (h₀ : Heap) (L : Addr) (m : Str → Option Value) (s : Shared) (its : Led) (P : Prop) : Shared → Prop
  | intro {h' : Heap} {tk : Nat} (F : Fr h₀ L h' m) (N : News h₀ L h' its) (p : P) : EndE h₀ L m s its P { s with heap := h', toks := tk }
def SignP (X : Str) (i : Nat) (v : Value) : Prop := ∃ c u, X.cps[i]? = some c ∧ v = Value.str ⟨#[c]⟩ u
def TurnE (prog : Program) (w : World) (A : Around) (h₀ : Heap) (L : Addr) (m : Str → Option Value) (env : Env) (elt c : Expr) (a b : Str) (scope : Scope) (cl : List (Str × Addr)) (s : Shared) (e it : Addr) (X : Str) (news : Led) (J : Nat → List Value → Prop) : Prop :=
  ∀ i ys cc t u oe oi C oC D m₂ h tk (E' : Value → Shared → Prop), X.cps[i]? = some cc → J i ys → LCg.NsObj oC m₂ → m₂ a = some (.int (i : Nat) t) → m₂ b = some (.str ⟨#[cc]⟩ u) → Fr h₀ L h m → News h₀ L h ((e, oe) :: (it, oi) :: (C, oC) :: (D, LCg.lst ys) :: news) →
    wpAny (model prog w) A (isTrue c (compEnvC scope cl C env) (eval c (compEnvC scope cl C env))) (fun okb s₃ => if okb = true then
      wpAny (model prog w) A (eval elt (compEnvC scope cl C env)) (fun y s₄ => EndE h₀ L m { s with heap := h, toks := tk } ((e, oe) :: (it, oi) :: (C, oC) :: (D, LCg.lst ys) :: news) (J (i + 1) (ys ++ [y])) s₄) E' s₃
      else EndE h₀ L m { s with heap := h, toks := tk } ((e, oe) :: (it, oi) :: (C, oC) :: (D, LCg.lst ys) :: news) (J (i + 1) ys) s₃) E' { s with heap := h, toks := tk }
inductive SrcE (prog : Program) (w : World) (A : Around) (h₀ : Heap) (L : Addr) (m : Str → Option Value) (env : Env) (elt c : Expr) (a b : Str) (scope : Scope) (cl : List (Str × Addr)) (Fin : Shared → List Value → Led → Prop) : Value → Shared → Prop
  | mk (s₁ : Shared) (e it : Addr) (X : Str) (news : Led) (J : Nat → List Value → Prop) (St : Nat → Heap → Prop) (F : Fr h₀ L s₁.heap m) (N : News h₀ L s₁.heap news) (hE : IsEnum s₁.heap e it 0 .none) (Dr : Draws prog w A.in1 it [it] X.cps.size (SignP X) St) (hSt : St 0 s₁.heap) (hie : it < e) (hnI : ∀ p ∈ news, p.1 < it) (hLI : L < it) (hsz : X.cps.size ≤ sizeLine) (hI : h₀.get? it = none) (hE₀ : h₀.get? e = none) (h0 : J 0 [])
    (turn : ∀ g, TurnE prog w A h₀ L m env elt c a b scope cl { s₁ with heap := g } e it X news J) (fin : ∀ g ys, J X.cps.size ys → Fin { s₁ with heap := g } ys news) : SrcE prog w A h₀ L m env elt c a b scope cl Fin (.ref e) s₁
/-- what holds between two turns -/
inductive InvE (h₀ : Heap) (L : Addr) (m : Str → Option Value) (s : Shared) (e it C D : Addr) (n : Nat) (St : Nat → Heap → Prop) (news : Led) (J : Nat → List Value → Prop) : Nat → Shared → Prop
  | mk (h' : Heap) (tk i : Nat) (ys : List Value) (m' : Str → Option Value) (hi : i ≤ n) (hl : ys.length ≤ i) (hs : (∃ o, IsEnum h' e it (i : Nat) o) ∧ St i h') (F : Fr h₀ L h' m) (hC : h'.Ns C m') (N : News h₀ L h' ((D, LCg.lst ys) :: news)) (hJ : J i ys) : InvE h₀ L m s e it C D n St news J (n + 1 - i) { s with heap := h', toks := tk }
theorem SrcE.call {elt c : Expr} {a b : Str} {scope : Scope} {cl : List (Str × Addr)} {Fin : Shared → List Value → Led → Prop} {X : Str} {t : Tok} {news : Led} (J : Nat → List Value → Prop) (hh : A.handled = none) (F : Fr h₀ L s.heap m) (N : News h₀ L s.heap news) (hsz : X.cps.size ≤ sizeLine) (h0 : J 0 [])
    (turn : ∀ e it g, TurnE prog w A h₀ L m env elt c a b scope cl { s with heap := g } e it X news J) (fin : ∀ g ys, J X.cps.size ys → Fin { s with heap := g } ys news) :
    wpAny (model prog w) A (PySem.call (.type "enumerate") [.str X t]) (SrcE prog w A h₀ L m env elt c a b scope cl Fin) E s := by
  refine call_enumerate_str fun h' he hit hsz2 hk => ?_
  have hi₀ : h₀.get? s.heap.objs.size = none := next_is_new F
  have he₀ : h₀.get? (s.heap.objs.size + 1) = none := by
    cases e : h₀.get? (s.heap.objs.size + 1) with
    | none => rfl
    | some o => exact absurd (Heap.lt_size (F.keep _ o e)) (Nat.not_lt.mpr (Nat.le_succ _))
  cases ha : X.cps.all (· < 128)
  · have hit' : h'.IsStrIter s.heap.objs.size "str_iterator" X t 0 := by simpa [strIterType, ha] using hit
    exact ⟨_, _, _, X, news, J, _, F.keeps hk, N.grown hk, he, Draws.strWide (A := A.in1) hh s.heap.objs.size X t, hit', Nat.lt_succ_self _, fun p hp => Heap.lt_size (N p hp).1, F.ns.lt, hsz, hi₀, he₀, h0, fun g => turn _ _ g, fun g ys => fin g ys⟩
  · have hit' : h'.IsStrIter s.heap.objs.size "str_ascii_iterator" X t 0 := by simpa [strIterType, ha] using hit
    exact ⟨_, _, _, X, news, J, _, F.keeps hk, N.grown hk, he, Draws.strAscii (A := A.in1) hh s.heap.objs.size X t, hit', Nat.lt_succ_self _, fun p hp => Heap.lt_size (N p hp).1, F.ns.lt, hsz, hi₀, he₀, h0, fun g => turn _ _ g, fun g ys => fin g ys⟩
theorem enum_block {elt iter c : Expr} {a b : Str} {pa pb tp : Pos} {kk : Nat} {scope : Scope} {cl : List (Str × Addr)} {pos : Pos} {s₁ : Shared} {e it : Addr} {X : Str} {news : Led} {J : Nat → List Value → Prop} {St : Nat → Heap → Prop} {RR : Value → Addr → Result → Shared → Prop}
    (hcell : ∀ y ∈ scope.names, y.2 ≠ .cell) (hkind : scope.kind = .function) (hxa : scope.names.lookup a = some .local) (hxb : scope.names.lookup b = some .local) (hab : ¬ a = b) (hh : A.handled = none)
    (F : Fr h₀ L s₁.heap m) (N : News h₀ L s₁.heap news) (hE : IsEnum s₁.heap e it 0 .none) (Dr : Draws prog w A.in1 it [it] X.cps.size (SignP X) St) (hSt : St 0 s₁.heap) (hie : it < e) (hnI : ∀ p ∈ news, p.1 < it) (hLI : L < it) (hsz : X.cps.size ≤ sizeLine) (hI₀ : h₀.get? it = none) (hE₀ : h₀.get? e = none) (hJ0 : J 0 [])
    (turn : ∀ g, TurnE prog w A h₀ L m env elt c a b scope cl { s₁ with heap := g } e it X news J)
    (hRR : ∀ D C h tk m' ys, Fr h₀ L h m → News h₀ L h ((D, LCg.lst ys) :: news) → LCg.Off1 D news → h.Ns C m' → h₀.get? C = none → C ≠ L → (@Ne Nat C D) → (∀ p ∈ news, @Ne Nat p.1 C) → J X.cps.size ys → RR (.ref D) C (.ok .next) { s₁ with heap := h, toks := tk }) :
    wpAny (model prog w) A (newList []) (fun acc s₃ => wpAny (model prog w) A (newFunctionEnv scope env.globals cl [] env.qual none .none (some env)) (fun cenv s₄ =>
      codeAny (model prog w) A (.compStart (.ListComp elt [⟨.Tuple [.Name a pa, .Name b pb] kk tp, iter, [c], 0⟩] scope pos) 0 (.ref e) acc { cenv with scope := relabel scope env }) (RR acc cenv.locals) s₄) E s₃) E s₁ := by
  have hei : e ≠ it := Nat.ne_of_gt hie
  have W := KTurns.ofWalksU (elts := [.Name a pa, .Name b pb]) (k := kk) (pos := tp) (WalksT.enumerateD Dr e hei (by simpa using hei) (List.mem_singleton.mpr rfl)).toU
  have hesz : e < s₁.heap.objs.size := Heap.lt_size hE
  refine wpAny_newObj_type (wpAny_newFunctionEnv hcell (by intro y hy; simp at hy) (fun h₁ hns₁ hsb₁ => ?_) hkind)
  dsimp only at hns₁ hsb₁ ⊢
  have hC : (s₁.heap.push { cls := .type "list", dict := none, data := .seq ([] : List Value).toArray }).objs.size = s₁.heap.objs.size + 1 := Heap.size_push ..
  have hD1 : (s₁.heap.push { cls := .type "list", dict := none, data := .seq ([] : List Value).toArray }).get? s₁.heap.objs.size = some (LCg.lst []) := Heap.get?_push_size _ rfl
  have up : ∀ b o, s₁.heap.get? b = some o → (s₁.heap.push { cls := .type "list", dict := none, data := .seq ([] : List Value).toArray }).get? b = some o := fun b o e => Heap.get?_push_of_some _ e
  generalize s₁.heap.push { cls := .type "list", dict := none, data := .seq ([] : List Value).toArray } = G at hC hD1 up hns₁ hsb₁ ⊢
  have new₀ : ∀ c, s₁.heap.objs.size ≤ c → h₀.get? c = none := fun c hc => by
    cases q : h₀.get? c with
    | none => rfl
    | some o => exact absurd (Heap.lt_size (F.keep c o q)) (Nat.not_lt.mpr hc)
  have hLs := F.ns.lt
  obtain ⟨D, hD⟩ : ∃ D, D = s₁.heap.objs.size := ⟨_, rfl⟩
  obtain ⟨C, hCe⟩ : ∃ C, C = G.objs.size := ⟨_, rfl⟩
  rw [← hD] at hC hD1 hesz hLs new₀
  rw [← hCe] at hC hns₁ hsb₁
  have hDE : @Ne Nat e D := Nat.ne_of_lt hesz
  have hCE : @Ne Nat e C := by rw [hC]; exact Nat.ne_of_lt (Nat.lt_succ_of_lt hesz)
  have hDI : @Ne Nat it D := Nat.ne_of_lt (Nat.lt_trans hie hesz)
  have hCI : @Ne Nat it C := by rw [hC]; exact Nat.ne_of_lt (Nat.lt_succ_of_lt (Nat.lt_trans hie hesz))
  have hCD : @Ne Nat C D := by rw [hC]; exact Nat.ne_of_gt (Nat.lt_succ_self _)
  have hLD : L ≠ D := Nat.ne_of_lt hLs
  have hLC : L ≠ C := Nat.ne_of_lt (by rw [hC]; exact Nat.lt_succ_of_lt hLs)
  have hD₀ : h₀.get? D = none := new₀ D (Nat.le_refl _)
  have hC₀ : h₀.get? C = none := new₀ C (by rw [hC]; exact Nat.le_succ _)
  have hnD : ∀ p ∈ news, @Ne Nat p.1 e ∧ @Ne Nat p.1 it ∧ @Ne Nat p.1 C ∧ @Ne Nat p.1 D := fun p hp => by
    have h1 := hnI p hp
    have h2 := Nat.lt_trans h1 hie
    have h3 := Nat.lt_trans h2 hesz
    exact ⟨Nat.ne_of_lt h2, Nat.ne_of_lt h1, by rw [hC]; exact Nat.ne_of_lt (Nat.lt_succ_of_lt h3), Nat.ne_of_lt h3⟩
  have old : ∀ b o, b < C → G.get? b = some o → h₁.get? b = some o := fun b o hb q => hsb₁.extBut b o (Nat.ne_of_lt hb) (Heap.get?_push_of_some _ q)
  have oldH : ∀ b o, s₁.heap.get? b = some o → h₁.get? b = some o := fun b o q => old b o (by have := Heap.lt_size q; rw [hC, hD]; exact Nat.lt_succ_of_lt this) (up b o q)
  have hD2 : h₁.get? D = some (LCg.lst []) := old D _ (by rw [hC]; exact Nat.lt_succ_self _) hD1
  have off1 : LCg.Off1 D news := off1_of fun p hp => (hnD p hp).2.2.2
  have hst1 : (∃ o, IsEnum h₁ e it ((0 : Nat) : Int) o) ∧ St 0 h₁ := ⟨⟨_, oldH _ _ hE⟩, Dr.frame _ _ _ hSt fun b _ o q => oldH b o q⟩
  have N1 : News h₀ L h₁ ((D, LCg.lst []) :: news) := fun p hp => by
    rcases List.mem_cons.mp hp with rfl | hp
    · exact ⟨hD2, Ne.symm hLD, hD₀⟩
    · exact ⟨oldH _ _ (N p hp).1, (N p hp).2⟩
  have loop : ∀ s₃ : Shared, s₃ = { s₁ with heap := h₁, toks := s₁.toks + ([] : List (Str × Value)).length } →
      codeAny (model prog w) A (.compLoop (.ListComp elt [⟨.Tuple [.Name a pa, .Name b pb] kk tp, iter, [c], 0⟩] scope pos) 0 (.ref e) (.ref D) (compEnvC scope cl C env)) (RR (.ref D) C) s₃ := by
    rintro s₃ rfl
    refine kct_loop
      (InvE h₀ L m s₁ e it C D X.cps.size St news J) ?_ (X.cps.size + 1) (.mk h₁ _ 0 [] _ (Nat.zero_le _) (Nat.le_refl _) hst1 (F.keeps oldH) hns₁ N1 hJ0)
    rintro _ _ ⟨h', tk, i, ys, m', hi, hyl, hst', F', hn', N', hJ⟩
    by_cases hlt : i < X.cps.size
    · refine W.item i _ _ _ hlt hst' fun v h₂ tk₂ hMd hk₂ => ?_
      refine W.go i v _ _ _ hMd fun h₃ hP hst₃ hk₃ => ?_
      obtain ⟨T, vals, rfl, ⟨t, x, ⟨cc, u, hcc, rfl⟩, rfl⟩, hT⟩ := hP
      have up₃ : ∀ b o, @Ne Nat b e → @Ne Nat b it → h'.get? b = some o → h₃.get? b = some o := fun b o h1 h2 q => hk₃ b o (by simp only [List.mem_cons, List.not_mem_nil, or_false, not_or]; exact ⟨h1, h2⟩) (hk₂ b o (by simp only [List.mem_cons, List.not_mem_nil, or_false, not_or]; exact ⟨h1, h2⟩) q)
      refine kcp_assign (env := compEnvC scope cl C env) hh hT (lookup_relabel_local hxa) (lookup_relabel_local hxb) (by simp [compEnvC, relabel, hkind]) (hn'.at' fun o q => up₃ C o (Ne.symm hCE) (Ne.symm hCI) q) fun h₄ tk₄ hn₄ hs₄ => ?_
      have up₄ : ∀ b o, @Ne Nat b e → @Ne Nat b it → @Ne Nat b C → h'.get? b = some o → h₄.get? b = some o := fun b o h1 h2 h3 q => hs₄ b o h3 (up₃ b o h1 h2 q)
      obtain ⟨⟨oo, hE₃⟩, hS₃⟩ := hst₃
      have hE₄ : IsEnum h₄ e it ((i + 1 : Nat) : Int) oo := hs₄ e _ hCE hE₃
      have hS₄ : St (i + 1) h₄ := Dr.frame _ _ _ hS₃ fun b hb o q => hs₄ b o (by rw [List.mem_singleton.mp hb]; exact hCI) q
      obtain ⟨oi, hoi⟩ := Dr.live _ _ hS₄
      obtain ⟨oe, hoe, hoe2⟩ : ∃ oe, h₄.get? e = some oe ∧ ∀ h : Heap, h.get? e = some oe → IsEnum h e it ((i + 1 : Nat) : Int) oo := ⟨_, hE₄, fun _ q => q⟩
      obtain ⟨oC, heC, hoC⟩ := LCg.ns_obj hn₄
      have F₄ : Fr h₀ L h₄ m := ⟨F'.ns.at' fun o q => up₄ L o (Nat.ne_of_lt (Nat.lt_trans hLI hie)) (Nat.ne_of_lt hLI) hLC q,
        fun b o q => up₄ b o (fun r => by rw [show b = e from r, hE₀] at q; cases q) (fun r => by rw [show b = it from r, hI₀] at q; cases q) (fun r => by rw [show b = C from r, hC₀] at q; cases q) (F'.keep b o q), F'.above⟩
      have N₄ : News h₀ L h₄ ((e, oe) :: (it, oi) :: (C, oC) :: (D, LCg.lst ys) :: news) := fun q hq => by
        rcases List.mem_cons.mp hq with rfl | hq
        · exact ⟨hoe, Nat.ne_of_gt (Nat.lt_trans hLI hie), hE₀⟩
        rcases List.mem_cons.mp hq with rfl | hq
        · exact ⟨hoi, Nat.ne_of_gt hLI, hI₀⟩
        rcases List.mem_cons.mp hq with rfl | hq
        · exact ⟨heC, Ne.symm hLC, hC₀⟩
        have z := N' q hq
        rcases List.mem_cons.mp hq with rfl | hq
        · exact ⟨up₄ D _ (Ne.symm hDE) (Ne.symm hDI) (Ne.symm hCD) z.1, z.2⟩
        · obtain ⟨a1, a2, a3, _⟩ := hnD q hq
          exact ⟨up₄ _ _ a1 a2 a3 z.1, z.2⟩
      have back : ∀ (ys' : List Value) (h₅ : Heap) (tk₅ : Nat), ys'.length ≤ i + 1 → Fr h₀ L h₅ m → News h₀ L h₅ ((e, oe) :: (it, oi) :: (C, oC) :: (D, LCg.lst ys') :: news) → J (i + 1) ys' →
          ∃ q', q' < X.cps.size + 1 - i ∧ InvE h₀ L m s₁ e it C D X.cps.size St news J q' { s₁ with heap := h₅, toks := tk₅ } := by
        intro ys' h₅ tk₅ hl F₅ N₅ hJ₅
        have zE := (N₅ (e, oe) (.head _)).1
        have zI := (N₅ (it, oi) (.tail _ (.head _))).1
        have zC := (N₅ (C, oC) (.tail _ (.tail _ (.head _)))).1
        refine ⟨X.cps.size + 1 - (i + 1), by (first | lia | omega), .mk h₅ tk₅ (i + 1) ys' _ hlt hl ⟨⟨_, hoe2 h₅ zE⟩, Dr.frame _ _ _ hS₄ fun b hb o q => ?_⟩ F₅ (hoC.ns zC) (fun q hq => N₅ q (.tail _ (.tail _ (.tail _ hq)))) hJ₅⟩
        rw [List.mem_singleton.mp hb] at q ⊢
        rw [hoi] at q; cases q; exact zI
      refine wpAny_mono (turn h₁ i ys cc t u oe oi C oC D _ h₄ tk₄ _ hcc hJ hoC (by simp [hab]) (by simp) F₄ N₄) (fun okb s₅ h₅ => ?_) fun _ _ q => q
      cases okb with
      | false =>
        simp only [Bool.false_eq_true, if_false] at h₅ ⊢
        obtain @⟨h₅, tk₅, F₅, N₅, hJ₅⟩ := h₅
        exact back ys h₅ tk₅ (Nat.le_succ_of_le hyl) F₅ N₅ hJ₅
      | true =>
        simp only [if_true] at h₅ ⊢
        refine wpAny_mono h₅ (fun y s₆ h₆ => ?_) fun _ _ q => q
        obtain @⟨h₅, tk₅, F₅, N₅, hJ₅⟩ := h₆
        have zD := (N₅ (D, LCg.lst ys) (.tail _ (.tail _ (.tail _ (.head _))))).1
        refine append_at (hsz := by show ys.toArray.size ≤ sizeLine; rw [List.size_toArray]; exact Nat.le_trans hyl (Nat.le_trans hi hsz)) zD fun h₆ hs₆ hD₆ => ?_
        refine back (ys ++ [y]) h₆ _ (by rw [List.length_append, List.length_singleton]; exact Nat.succ_le_succ hyl) (F₅.change hs₆ (Ne.symm hLD) hD₀) (fun q hq => ?_) hJ₅
        rcases List.mem_cons.mp hq with rfl | hq
        · have z := N₅ _ (.head _); exact ⟨hs₆.extBut _ _ hDE z.1, z.2⟩
        rcases List.mem_cons.mp hq with rfl | hq
        · have z := N₅ _ (.tail _ (.head _)); exact ⟨hs₆.extBut _ _ hDI z.1, z.2⟩
        rcases List.mem_cons.mp hq with rfl | hq
        · have z := N₅ _ (.tail _ (.tail _ (.head _))); exact ⟨hs₆.extBut _ _ hCD z.1, z.2⟩
        rcases List.mem_cons.mp hq with rfl | hq
        · exact ⟨hD₆.trans (congrArg some (LCg.lst_snoc ys y)), Ne.symm hLD, hD₀⟩
        · have z := N₅ q (.tail _ (.tail _ (.tail _ (.tail _ hq))))
          exact ⟨hs₆.extBut _ _ (hnD q hq).2.2.2 z.1, z.2⟩
    · obtain rfl : i = X.cps.size := Nat.le_antisymm hi (Nat.not_lt.mp hlt)
      refine W.done _ _ _ hst' fun h₂ tk₂ hk₂ => ?_
      have up₂ : ∀ b o, @Ne Nat b e → @Ne Nat b it → h'.get? b = some o → h₂.get? b = some o := fun b o h1 h2 q => hk₂ b o (by simp only [List.mem_cons, List.not_mem_nil, or_false, not_or]; exact ⟨h1, h2⟩) q
      have F₂ : Fr h₀ L h₂ m := ⟨F'.ns.at' fun o q => up₂ L o (Nat.ne_of_lt (Nat.lt_trans hLI hie)) (Nat.ne_of_lt hLI) q,
        fun b o q => up₂ b o (fun r => by rw [show b = e from r, hE₀] at q; cases q) (fun r => by rw [show b = it from r, hI₀] at q; cases q) (F'.keep b o q), F'.above⟩
      refine hRR D C h₂ tk₂ m' ys F₂ (fun p hp => ?_) off1 (hn'.at' fun o q => up₂ C o (Ne.symm hCE) (Ne.symm hCI) q) hC₀ (Ne.symm hLC) hCD (fun p hp => (hnD p hp).2.2.1) hJ
      have z := N' p hp
      rcases List.mem_cons.mp hp with rfl | hp
      · exact ⟨up₂ D _ (Ne.symm hDE) (Ne.symm hDI) z.1, z.2⟩
      · obtain ⟨a1, a2, _, _⟩ := hnD p hp
        exact ⟨up₂ _ _ a1 a2 z.1, z.2⟩
  subst hD hCe
  refine codeAny_compStart_list (loop _ rfl) ?_
  exact wpAny_pyIter_enum hst1.1.choose_spec (loop _ rfl)
theorem comp_enum {elt iter c : Expr} {a b : Str} {pa pb tp : Pos} {kk : Nat} {scope : Scope} {cl : List (Str × Addr)} {pos : Pos} {Q : Value → Shared → Prop} (_F₀ : Fr h₀ L s.heap m)
    (hclos : closureFor scope env = pure cl) (hcell : ∀ y ∈ scope.names, y.2 ≠ .cell) (hkind : scope.kind = .function)
    (hnames : ∀ y ∈ scope.names, y.2 = .local → scope.names.lookup y.1 = some .local) (hxa : scope.names.lookup a = some .local) (hxb : scope.names.lookup b = some .local) (hab : ¬ a = b) (hh : A.handled = none)
    (h : wpAny (model prog w) A (eval iter env) (SrcE prog w A h₀ L m env elt c a b scope cl fun s₂ => LCg.FinE h₀ L m s₂ Q) E s)
    (hs : ∀ x, foldedSetIterable iter env x = pure x := by intro _; rfl) :
    wpAny (model prog w) A (eval (.ListComp elt [⟨.Tuple [.Name a pa, .Name b pb] kk tp, iter, [c], 0⟩] scope pos) env) Q E s := by
  rw [eval_ListComp]
  refine wpAny_comprehension_free (use := none) rfl hs hclos hkind hnames (wpAny_mono h (fun xv s₁ h₁ => ?_) fun _ _ e => e)
  obtain ⟨s₁, e, it, X, news, J, St, F, N, hE, Dr, hSt, hie, hnI, hLI, hsz, hI₀, hE₀, hJ0, turn, fin⟩ := h₁
  refine wpAny_pyIter_enum hE ?_
  refine enum_block hcell hkind hxa hxb hab hh F N hE Dr hSt hie hnI hLI hsz hI₀ hE₀ hJ0 turn ?_
  intro D C h' tk m' ys F' N' o1 hn hC₀ hCL hCD offC hJ
  exact ⟨m', hn, fun h'' hs'' => fin s₁.heap ys hJ D h'' tk (F'.change hs'' hCL hC₀) (fin_free N' hs'' hCD offC) o1⟩
/-- the same, its list bound to a name -/
theorem assign_enum {elt iter c : Expr} {a b y : Str} {pa pb tp py : Pos} {kk : Nat} {scope : Scope} {cl : List (Str × Addr)} {pos spos : Pos} {Q : Flow → Shared → Prop} (_F₀ : Fr h₀ L s.heap m) (hLe : env.locals = L)
    (hsw : swapsWith (.ListComp elt [⟨.Tuple [.Name a pa, .Name b pb] kk tp, iter, [c], 0⟩] scope pos) (some (.Name y py)) spos.line env = pure true)
    (hclos : closureFor scope env = pure cl) (hcell : ∀ z ∈ scope.names, z.2 ≠ .cell) (hkind : scope.kind = .function)
    (hnames : ∀ z ∈ scope.names, z.2 = .local → scope.names.lookup z.1 = some .local) (hxa : scope.names.lookup a = some .local) (hxb : scope.names.lookup b = some .local) (hab : ¬ a = b) (hh : A.handled = none)
    (hy : env.kindOf y = some .local) (hp : (env.scope.kind == .class || (env.scope.kind == .module && env.locals != env.globals)) = false)
    (h : wpAny (model prog w) A (eval iter env) (SrcE prog w A h₀ L m env elt c a b scope cl fun s₂ => LCg.FinA h₀ L m s₂ y Q) E s)
    (hs : ∀ x, foldedSetIterable iter env x = pure x := by intro _; rfl) :
    wpAny (model prog w) A (exec (.Assign [.Name y py] (.ListComp elt [⟨.Tuple [.Name a pa, .Name b pb] kk tp, iter, [c], 0⟩] scope pos) spos) env) Q E s := by
  subst hLe
  rw [exec_Assign_Name_used _ _ _ _ hsw]
  refine wpAny_bind (wpAny_standAt (wpAny_bind ?_))
  show wpAny _ A (do let _ ← comprehension (.ListComp elt [⟨.Tuple [.Name a pa, .Name b pb] kk tp, iter, [c], 0⟩] scope pos) scope env _ (newList []) false (eval iter env) (some (assign (.Name y py) env))) _ _ s
  refine wpAny_bind (wpAny_mono (wpAny_comprehension_free (use := some (assign (.Name y py) env)) (Q := fun _ s' => Q .next s') rfl hs hclos hkind hnames
    (wpAny_mono h (fun xv s₁ h₁ => ?_) fun _ _ e => e)) (fun _ s' hq => wpAny_pure (wpAny_pure hq)) fun _ _ e => e)
  obtain ⟨s₁, e, it, X, news, J, St, F, N, hE, Dr, hSt, hie, hnI, hLI, hsz, hI₀, hE₀, hJ0, turn, fin⟩ := h₁
  refine wpAny_pyIter_enum hE ?_
  refine enum_block hcell hkind hxa hxb hab hh F N hE Dr hSt hie hnI hLI hsz hI₀ hE₀ hJ0 turn ?_
  intro D C h' tk m' ys F' N' o1 hn hC₀ hCL hCD offC hJ
  show wpAny _ A (assign (.Name y py) env (.ref D)) _ _ _
  refine wpAny_assign_Name (wpAny_storeName_local hy F'.ns (fun h₂ hn₂ hs₂ => ?_) hp)
  have hL₀ : h₀.get? env.locals = none := Heap.get?_none_of_le F'.above
  have F₂ : Fr h₀ env.locals h₂ (fun z => if z = y then some (.ref D) else m z) := ⟨hn₂, fun b o e => hs₂.extBut b o (fun q => by rw [q, hL₀] at e; cases e) (F'.keep b o e), F'.above⟩
  have N₂ : News h₀ env.locals h₂ ((D, LCg.lst ys) :: news) := fun p hp => ⟨hs₂.extBut _ _ (N' p hp).2.1 (N' p hp).1, (N' p hp).2⟩
  exact ⟨m', hn.sameBut hs₂ hCL, fun h'' hs'' => fin s₁.heap ys hJ D h'' _ (F₂.change hs'' hCL hC₀) (fin_free N₂ hs'' hCD offC) o1⟩
end
end Mine

end
noncomputable section
open PySem PySem.W PyProof.Rows PySem.Spec PySem.Calls
set_option Elab.async false
set_option maxRecDepth 100000
namespace Mine
theorem sqz_last (rs : List (Bool × List Nat)) (l : List Nat) : (sqz rs l).getLast? = l.getLast? := by
  suffices h : ∀ r : List Nat, (sqz rs r.reverse).getLast? = r.reverse.getLast? by have := h l.reverse; rwa [List.reverse_reverse] at this
  intro r
  induction r with
  | nil => rfl
  | cons c r ih =>
    rw [List.reverse_cons, sqz_snoc]
    unfold sqzStep
    by_cases h : (sqz rs r.reverse).getLast? = some c ∧ isIn rs c = true
    · rw [if_pos h, h.1]; simp
    · rw [if_neg h]; simp
theorem sqz_idem (rs : List (Bool × List Nat)) (l : List Nat) : sqz rs (sqz rs l) = sqz rs l := by
  suffices h : ∀ r : List Nat, sqz rs (sqz rs r.reverse) = sqz rs r.reverse by have := h l.reverse; rwa [List.reverse_reverse] at this
  intro r
  induction r with
  | nil => rfl
  | cons c r ih =>
    rw [List.reverse_cons, sqz_snoc]
    by_cases h : (sqz rs r.reverse).getLast? = some c ∧ isIn rs c = true
    · have e : sqzStep rs (sqz rs r.reverse) c = sqz rs r.reverse := if_pos h
      rw [e, ih]
    · have e : sqzStep rs (sqz rs r.reverse) c = sqz rs r.reverse ++ [c] := if_neg h
      rw [e, sqz_snoc, ih, e]
theorem take_last {l : List Nat} {i c : Nat} (hc : l[i]? = some c) : (l.take i).getLast? = if i = 0 then none else l[i - 1]? := by
  have hi : i < l.length := (List.getElem?_eq_some_iff.mp hc).1
  cases i with
  | zero => simp
  | succ i =>
    rw [List.getLast?_eq_getElem?, List.length_take, Nat.min_eq_left (Nat.le_of_lt hi), if_neg (Nat.succ_ne_zero i)]
    rw [List.getElem?_take]
    simp
theorem sqz_due {rs : List (Bool × List Nat)} {l : List Nat} {i c : Nat} (hc : l[i]? = some c) (h : i = 0 ∨ l[i - 1]? ≠ some c ∨ isIn rs c = false) : sqz rs (l.take (i + 1)) = sqz rs (l.take i) ++ [c] := by
  refine sqz_app hc fun ⟨h1, h2⟩ => ?_
  rw [sqz_last, take_last hc] at h1
  rcases h with h | h | h
  · rw [if_pos h] at h1; cases h1
  · by_cases h0 : i = 0
    · rw [if_pos h0] at h1; cases h1
    · rw [if_neg h0] at h1; exact h h1
  · rw [h] at h2; cases h2
theorem sqz_not {rs : List (Bool × List Nat)} {l : List Nat} {i c : Nat} (hc : l[i]? = some c) (hi : i ≠ 0) (h : l[i - 1]? = some c) (h2 : isIn rs c = true) : sqz rs (l.take (i + 1)) = sqz rs (l.take i) := by
  refine sqz_stay hc ?_ h2
  rw [sqz_last, take_last hc, if_neg hi, h]
theorem del_idem (p : Nat → Bool) (l : List Nat) : (l.filter p).filter p = l.filter p := by rw [List.filter_filter]; simp
theorem cnt_del (p : Nat → Bool) (l : List Nat) : (l.filter fun c => !p c).countP p = 0 := by
  rw [List.countP_eq_zero]
  intro a ha
  have := (List.mem_filter.mp ha).2
  simpa using this
theorem cnt_in (p : Nat → Bool) (l : List Nat) : l.countP p = (l.filter p).length := List.countP_eq_length_filter
theorem cnt_sum (p : Nat → Bool) (l : List Nat) : (l.filter fun c => !p c).length + (l.filter p).length = l.length := by
  induction l with
  | nil => rfl
  | cons a l ih =>
    rw [List.filter_cons, List.filter_cons]
    by_cases h : p a = true
    · simp only [h, Bool.not_true, Bool.false_eq_true, if_false, if_true, List.length_cons]; (first | lia | omega)
    · have h' : p a = false := by simpa using h
      simp only [h', Bool.not_false, Bool.false_eq_true, if_false, if_true, List.length_cons]; (first | lia | omega)
end Mine

end
noncomputable section
open PySem PySem.W PyProof.Rows PySem.Spec PySem.Calls
set_option Elab.async false
set_option maxRecDepth 100000
namespace Mine
def SetsRightS (K : Params → Frag) : Prop := ∀ (w : World) (b : Addr) (o : Obj) (sm : Bool) (c : Int) (al : Str) (ta : Tok) (x : Str) (tx : Tok) (rest : Led), BoxO sm c o → c < 700000 → Alph al → x.length ≤ 100 → (∀ p ∈ rest, p.1 ≠ b) →
  Fn K w 480 10 [.ref b, .str al ta, .str x tx] ((b, o) :: rest) fun r n _ => ∃ o', n = (b, o') :: rest ∧ (BoxO sm (c + 100) o' ∧ r = .bool true)
theorem Fresh.app {ex ex9 B : Led} (h : Fresh ex B) (h9 : Fresh ex9 B) : Fresh (ex ++ ex9) B := fun p hp => (List.mem_append.mp hp).elim (h p) (h9 p)
theorem Fresh.sub {ex B B' : Led} (h : Fresh ex B) (hs : ∀ q ∈ B', ∃ q' ∈ B, q'.1 = q.1) : Fresh ex B' := fun p hp q hq => by
  obtain ⟨q', hq', e⟩ := hs q hq
  rw [← e]; exact h p hp q' hq'
/-- the sets drawn so far -/
def SrJ (p1 p2 p3 p4 p5 : Addr × Obj) (b : Addr) (o : Obj) (rest : Led) (sm : Bool) (c : Int) (i : Nat) (ys : List Value) (nw : Led) : Prop :=
  ∃ o' ex rs, nw = p1 :: p2 :: p3 :: p4 :: p5 :: (b, o') :: (rest ++ ex) ∧ BoxO sm (c + 16 * i) o' ∧ Rows3 ex ys rs ∧ rs.length = i ∧ Fresh ex (p1 :: p2 :: p3 :: p4 :: p5 :: (b, o) :: rest)
theorem SrJ.start {p1 p2 p3 p4 p5 : Addr × Obj} {b : Addr} {rest : Led} {sm : Bool} {c : Int} {o : Obj} (h : BoxO sm c o) : SrJ p1 p2 p3 p4 p5 b o rest sm c 0 [] (p1 :: p2 :: p3 :: p4 :: p5 :: (b, o) :: rest) :=
  ⟨o, [], [], by rw [List.append_nil], h.mono (by simp), .nil, rfl, fun p hp => nomatch hp⟩
theorem SrJ.step {p1 p2 p3 p4 p5 p6 p7 p8 : Addr × Obj} {b : Addr} {rest ex ex9 : Led} {sm : Bool} {c d : Int} {i : Nat} {o o2 o9 : Obj} {ys vs : List Value} {rs : List (Bool × List Nat)} {T M : Addr} {x : Str} {t : Tok} {bb : Bool} {k : Nat} {ms : List Nat}
    (hR : Rows3 ex ys rs) (hl : rs.length = i) (hF : Fresh ex (p1 :: p2 :: p3 :: p4 :: p5 :: (b, o) :: rest)) (hF9 : Fresh ex9 (p6 :: p7 :: p8 :: p1 :: p2 :: p3 :: p4 :: p5 :: (b, o2) :: (rest ++ ex))) (hB : BoxO sm d o9) (hd : d ≤ c + 16 * (i + 1)) (hT : (T, tup3O x t bb M) ∈ ex9) (hM : (M, listOf vs.toArray k) ∈ ex9) (hC : Chs vs ms) (hX : TelX x (bb, ms)) :
    SrJ p1 p2 p3 p4 p5 b o rest sm c (i + 1) (ys ++ [.ref T]) (p1 :: p2 :: p3 :: p4 :: p5 :: (b, o9) :: (rest ++ (ex ++ ex9))) :=
  ⟨o9, ex ++ ex9, rs ++ [(bb, ms)], rfl, hB.mono (by push_cast; omega), (hR.mono fun p hp => List.mem_append_left _ hp).snoc (List.mem_append_right _ hT) (List.mem_append_right _ hM) hC hX, by rw [List.length_append, hl]; rfl,
    hF.app (hF9.sub fun q hq => by
      simp only [List.mem_cons] at hq
      rcases hq with h | h | h | h | h | h | h
      · exact ⟨p1, by simp, by rw [h]⟩
      · exact ⟨p2, by simp, by rw [h]⟩
      · exact ⟨p3, by simp, by rw [h]⟩
      · exact ⟨p4, by simp, by rw [h]⟩
      · exact ⟨p5, by simp, by rw [h]⟩
      · exact ⟨(b, o2), by simp, by rw [h]⟩
      · exact ⟨q, by simp [h], rfl⟩)⟩
theorem Args.snoc {w : World} {n : Led} {vs : List Value} {rs : List (Bool × List Nat)} (h : Args w n vs rs) {a : Addr} {x : Str} {t : Tok} {r : Bool × List Nat} (h1 : ThingIn w n a x t) (h2 : TelX x r) : Args w n (vs ++ [.ref a]) (rs ++ [r]) := by
  induction h with
  | nil => exact .cons h1 h2 .nil
  | cons a b _ ih => exact .cons a b ih
/-- the things made of the told texts so far -/
def ArJ (w : World) (B : Led) (rs : List (Bool × List Nat)) (i : Nat) (zs : List Value) (nw : Led) : Prop := ∃ ex2, nw = B ++ ex2 ∧ Args w ex2 zs (rs.take i) ∧ Fresh ex2 B
theorem ArJ.start {w : World} {B : Led} {rs : List (Bool × List Nat)} : ArJ w B rs 0 [] B := ⟨[], by rw [List.append_nil], .nil, fun p hp => nomatch hp⟩
theorem ArJ.step {w : World} {B ex2 : Led} {rs : List (Bool × List Nat)} {i : Nat} {zs : List Value} {p6 p7 p8 p1 p2 : Addr × Obj} {r : Bool × List Nat} {x : Str} {t : Tok} (hA : Args w ex2 zs (rs.take i)) (hF : Fresh ex2 B) (hr : rs[i]? = some r) (hX : TelX x r) (hT : ThingIn w [p1, p2] p1.1 x t)
    (raw : (∀ p ∈ p6 :: p7 :: p8 :: (B ++ ex2), p.1 < p2.1) ∧ p2.1 < p1.1) : ArJ w B rs (i + 1) (zs ++ [.ref p1.1]) (B ++ (ex2 ++ [p1, p2])) := by
  have hB : ∀ q ∈ B, q.1 < p2.1 := fun q hq => raw.1 q (.tail _ (.tail _ (.tail _ (List.mem_append_left _ hq))))
  refine ⟨_, rfl, ?_, hF.app fun p hp q hq => ?_⟩
  · rw [List.take_add_one, hr]
    exact (hA.mono fun p hp => List.mem_append_left _ hp).snoc (hT.mono fun p hp => List.mem_append_right _ hp) hX
  · have h1 := hB q hq
    simp only [List.mem_cons, List.not_mem_nil, or_false] at hp
    rcases hp with rfl | rfl
    · exact Nat.lt_trans h1 raw.2
    · exact h1
theorem off3_thing {I C D : Addr} {oI oC oD : Obj} {nw : Led} {p1 p2 : Addr × Obj} (off : LCg.Off3 I C D nw) (raw : (∀ p ∈ (I, oI) :: (C, oC) :: (D, oD) :: nw, p.1 < p2.1) ∧ p2.1 < p1.1) : LCg.Off3 I C D (nw ++ [p1, p2]) :=
  LCg.Off3.of fun p hp => by
    have h1 := raw.1 (I, oI) (.head _); have h2 := raw.1 (C, oC) (.tail _ (.head _)); have h3 := raw.1 (D, oD) (.tail _ (.tail _ (.head _)))
    rcases List.mem_append.mp hp with h | h
    · exact off.mem p h
    · simp only [List.mem_cons, List.not_mem_nil, or_false] at h
      rcases h with rfl | rfl
      · exact ⟨Nat.ne_of_gt (Nat.lt_trans h1 raw.2), Nat.ne_of_gt (Nat.lt_trans h2 raw.2), Nat.ne_of_gt (Nat.lt_trans h3 raw.2)⟩
      · exact ⟨Nat.ne_of_gt h1, Nat.ne_of_gt h2, Nat.ne_of_gt h3⟩
/-- no address of X stands in B -/
def Apart (X B : Led) : Prop := ∀ p ∈ X, ∀ q ∈ B, p.1 ≠ q.1
theorem ne_apart {X B : Led} {a : Addr} (h : Apart X B) (hm : a ∈ B.map (·.1)) : ∀ p ∈ X, p.1 ≠ a := fun p hp => by
  obtain ⟨q, hq, rfl⟩ := List.mem_map.mp hm
  exact h p hp q hq
theorem Fresh.apart {X B : Led} (h : Fresh X B) : Apart X B := fun p hp q hq => Nat.ne_of_gt (h p hp q hq)
theorem Apart.app {X Y B : Led} (h : Apart X B) (h' : Apart Y B) : Apart (X ++ Y) B := fun p hp => (List.mem_append.mp hp).elim (h p) (h' p)
theorem Apart.cons {X B : Led} {x : Addr × Obj} (h : Apart X B) (h' : ∀ q ∈ B, q.1 ≠ x.1) : Apart (x :: X) B := fun p hp q hq => by
  rcases List.mem_cons.mp hp with rfl | hp
  · exact (h' q hq).symm
  · exact h p hp q hq
theorem Apart.sub {X B B' : Led} (h : Apart X B) (hs : ∀ q ∈ B', ∃ q' ∈ B, q'.1 = q.1) : Apart X B' := fun p hp q hq => by
  obtain ⟨q', hq', e⟩ := hs q hq
  rw [← e]; exact h p hp q' hq'
section
variable {prog : Program} {w : World} {A : Around} {E : Value → Shared → Prop} {s : Shared} {h₀ : Heap} {L : Addr} {news : Led} {T K : Addr} {x : Str} {t u : Tok} {b : Bool} {Q : Value → Shared → Prop} {value slice : Expr}
theorem tup3_0 (N : News h₀ L s.heap news) (hm : (T, tup3O x t b K) ∈ news) (h : Q (.str x t) s)
    (hs : subscripted slice false (.ref T) (.int 0 u) = operate [.ref T, .int 0 u] (getItem (.ref T) (.int 0 u)) := by with_unfolding_all rfl) :
    wpAny (model prog w) A (subscriptTail value slice (.ref T) (.int 0 u)) Q E s := item_tupleT (l := [.str x t, .bool b, .ref K]) (j := 0) (News.isTup N hm) (by decide) (by decide) rfl rfl h hs
end
theorem news_group {h₀ h : Heap} {L : Addr} {a1 a2 p1 p2 p3 p4 p5 q : Addr × Obj} {rest ex ex2 X : Led} (N : News h₀ L h (a1 :: a2 :: p1 :: p2 :: p3 :: p4 :: p5 :: q :: (rest ++ ex ++ ex2))) (hX : X = a1 :: a2 :: (ex ++ ex2)) : News h₀ L h (p1 :: p2 :: p3 :: p4 :: p5 :: q :: (X ++ rest)) := by
  subst hX
  refine cb_drop N fun p hp => ?_
  simp only [List.mem_cons, List.mem_append, List.cons_append] at hp ⊢
  rcases hp with h | h | h | h | h | h | h | h | (h | h) | h <;> simp only [h, true_or, or_true]
theorem apart_group {a1 a2 p1 p2 p2' p3 p4 p5 q q' q'' : Addr × Obj} {rest ex ex2 X : Led} (hX : X = a1 :: a2 :: (ex ++ ex2)) (o9 : LCg.Off1 a1.1 (a2 :: p1 :: p2 :: p3 :: p4 :: p5 :: q :: (rest ++ ex) ++ ex2)) (o8 : LCg.Off1 a2.1 (p1 :: p2' :: p3 :: p4 :: p5 :: q' :: (rest ++ ex))) (h4 : p2'.1 = p2.1)
    (hF : Fresh ex (p1 :: p2' :: p3 :: p4 :: p5 :: q'' :: rest)) (hF2 : Fresh ex2 (a2 :: p1 :: p2 :: p3 :: p4 :: p5 :: q :: (rest ++ ex))) : Apart X [p1, p2, p3, p4, p5] := by
  subst hX
  refine Apart.cons (Apart.cons (Apart.app (hF.apart.sub ?_) (hF2.apart.sub ?_)) ?_) ?_
  · intro y hy
    simp only [List.mem_cons, List.not_mem_nil, or_false] at hy
    rcases hy with h | h | h | h | h
    · exact ⟨p1, by simp, by rw [h]⟩
    · exact ⟨p2', by simp, by rw [h, h4]⟩
    · exact ⟨p3, by simp, by rw [h]⟩
    · exact ⟨p4, by simp, by rw [h]⟩
    · exact ⟨p5, by simp, by rw [h]⟩
  · intro y hy
    refine ⟨y, ?_, rfl⟩
    simp only [List.mem_cons, List.not_mem_nil, or_false] at hy ⊢
    rcases hy with h | h | h | h | h <;> simp only [h, true_or, or_true]
  · have m := off1_mem o8
    intro y hy
    simp only [List.mem_cons, List.not_mem_nil, or_false] at hy
    rcases hy with h | h | h | h | h
    · exact m y (by simp [h])
    · rw [h, ← h4]; exact m p2' (by simp)
    · exact m y (by simp [h])
    · exact m y (by simp [h])
    · exact m y (by simp [h])
  · have m := off1_mem o9
    intro y hy
    refine m y ?_
    simp only [List.mem_cons, List.not_mem_nil, or_false, List.cons_append] at hy ⊢
    rcases hy with h | h | h | h | h <;> simp only [h, true_or, or_true]
theorem filt_yes {l : List Nat} {p : Nat → Bool} {i c : Nat} {ys : List Value} {t : Tok} (hJ : Chs ys ((l.take i).filter p)) (hc : l[i]? = some c) (h : p c = true) : Chs (ys ++ [.str (ch c) t]) ((l.take (i + 1)).filter p) := by
  rw [List.take_add_one, hc, List.filter_append]
  simp only [Option.toList, List.filter_cons, List.filter_nil]
  rw [if_pos h]
  exact hJ.snoc
theorem filt_no {l : List Nat} {p : Nat → Bool} {i c : Nat} {ys : List Value} (hJ : Chs ys ((l.take i).filter p)) (hc : l[i]? = some c) (h : p c = false) : Chs ys ((l.take (i + 1)).filter p) := by
  rw [List.take_add_one, hc, List.filter_append]
  simp only [Option.toList, List.filter_cons, List.filter_nil]
  rw [if_neg (by rw [h]; decide), List.append_nil]
  exact hJ
theorem get_cps {x : Str} {i c : Nat} (h : x.cps[i]? = some c) : x.cps.toList[i]? = some c := by simpa using h
theorem news_drop6 {h₀ h : Heap} {L : Addr} {a b c d e f : Addr × Obj} {l : Led} (N : News h₀ L h (a :: b :: c :: d :: e :: f :: l)) : News h₀ L h l := fun p hp => N p (.tail _ (.tail _ (.tail _ (.tail _ (.tail _ (.tail _ hp))))))
theorem bad_ne {a : Str} {P : Prop} (h : (a != a) = true) : P := absurd h (by simp)
theorem bad_sqz {rs : List (Bool × List Nat)} {l : List Nat} {P : Prop} (h : (S (sqz rs (sqz rs l)) != S (sqz rs l)) = true) : P := by
  rw [sqz_idem] at h; exact bad_ne h
theorem bad_del {p : Nat → Bool} {l : List Nat} {P : Prop} (h : (S ((l.filter p).filter p) != S (l.filter p)) = true) : P := by
  rw [del_idem] at h; exact bad_ne h
abbrev duoO (A R : Addr) : Obj := { cls := .type "tuple", data := .seq #[.ref A, .ref R] }
/-- a pair of arguments and of the law's sets -/
def DuoAt (w : World) (Y : Led) (v : Value) : Prop := ∃ T A R as k rs', v = .ref T ∧ (T, duoO A R) ∈ Y ∧ (A, listOf as.toArray k) ∈ Y ∧ Args w Y as rs' ∧ Sets3 Y R rs' ∧ rs'.length ≤ 10
theorem duo_all {w : World} {X : Led} {LL T1 T2 e1 e2 D9 D8 : Addr} {oL : Obj} {zs : List Value} {k : Nat} {rs : List (Bool × List Nat)} (hm : (D9, listOf zs.toArray k) ∈ X) (hA : Args w X zs rs) (hS : Sets3 X D8 rs) (hl : rs.length ≤ 10) :
    ∀ v ∈ [Value.ref T1, Value.ref T2], DuoAt w ((LL, oL) :: (T2, duoO e1 e2) :: (e2, listOf #[] 0) :: (e1, listOf #[] 0) :: (T1, duoO D9 D8) :: X) v := by
  intro v hv
  have hs : ∀ p ∈ X, p ∈ (LL, oL) :: (T2, duoO e1 e2) :: (e2, listOf #[] 0) :: (e1, listOf #[] 0) :: (T1, duoO D9 D8) :: X := fun p hp => .tail _ (.tail _ (.tail _ (.tail _ (.tail _ hp))))
  simp only [List.mem_cons, List.not_mem_nil, or_false] at hv
  rcases hv with rfl | rfl
  · exact ⟨T1, D9, D8, zs, k, rs, rfl, .tail _ (.tail _ (.tail _ (.tail _ (.head _)))), hs _ hm, hA.mono hs, hS.mono hs, hl⟩
  · exact ⟨T2, e1, e2, [], 0, [], rfl, .tail _ (.head _), .tail _ (.tail _ (.tail _ (.head _))), .nil, ⟨[], 0, .tail _ (.tail _ (.head _)), .nil⟩, by decide⟩
theorem DuoAt.mono {w : World} {Y Z : Led} {v : Value} (h : DuoAt w Y v) (hs : ∀ p ∈ Y, p ∈ Z) : DuoAt w Z v := by
  obtain ⟨T, A, R, as, k, rs', e, h1, h2, h3, h4, h5⟩ := h
  exact ⟨T, A, R, as, k, rs', e, hs _ h1, hs _ h2, h3.mono hs, h4.mono hs, h5⟩
theorem news_five {h₀ h : Heap} {L : Addr} {a1 a2 a3 a4 a5 p1 p2 p3 p4 p5 q : Addr × Obj} {rest X Y : Led} (N : News h₀ L h (a1 :: a2 :: a3 :: a4 :: a5 :: p1 :: p2 :: p3 :: p4 :: p5 :: q :: (X ++ rest))) (hX : Y = a1 :: a2 :: a3 :: a4 :: a5 :: X) : News h₀ L h (p1 :: p2 :: p3 :: p4 :: p5 :: q :: (Y ++ rest)) := by
  subst hX
  refine cb_drop N fun p hp => ?_
  simp only [List.mem_cons, List.mem_append, List.cons_append] at hp ⊢
  rcases hp with h | h | h | h | h | h | h | h | h | h | h | h | h <;> simp only [h, true_or, or_true]
theorem head_of {Y l : Led} {a : Addr × Obj} (h : Y = a :: l) : a ∈ Y := by rw [h]; exact .head _
def LpJ (c1 : Addr) (p2 p3 p4 p5 q : Addr × Obj) (Y rest : Led) (_ : Nat) (oc : Obj) (nx : Led) : Prop := nx = (c1, oc) :: p2 :: p3 :: p4 :: p5 :: q :: (Y ++ rest) ∧ ∃ v, oc.data = .cell v
theorem prev_sign {x : Str} {i : Nat} (h : i < x.length) : ∃ c, x.cps.toList[i - 1]? = some c :=
  ⟨_, List.getElem?_eq_getElem (by have : x.cps.toList.length = x.length := L_len x; omega)⟩
section
variable {prog : Program} {w : World} {A : Around} {E : Value → Shared → Prop} {s : Shared}
theorem item_prev {value slice : Expr} {x : Str} {t u : Tok} {i c : Nat} {Q : Value → Shared → Prop} (hc : x.cps.toList[i - 1]? = some c) (hi : (i : Int) ≠ 0) (hx : x.length ≤ 1000)
    (h : Q (.str (ch c) s.toks) { s with toks := s.toks + 1 })
    (hs : subscripted slice false (.str x t) (.int ((i : Int) - 1) u) = operate [.str x t, .int ((i : Int) - 1) u] (getItem (.str x t) (.int ((i : Int) - 1) u)) := by with_unfolding_all rfl)
    (ht : ∀ r, letTemporaryGo value (.str x t) r = pure () := by intro _; with_unfolding_all rfl) :
    wpAny (model prog w) A (subscriptTail value slice (.str x t) (.int ((i : Int) - 1) u)) Q E s := by
  have hl : x.cps.toList.length = x.length := L_len x
  have h2 := (List.getElem?_eq_some_iff.mp hc).1
  refine KXi.item (n := x.length) rfl (by omega) (by omega) (by omega) (fun _ => ?_) hs ht
  have e : Txt.item x ((i - 1 : Nat) : Int) = ch c := item_L x hc
  rw [show ((i - 1 : Nat) : Int) = (i : Int) - 1 by omega] at e
  rw [e]; exact h
end
theorem due_ne {x : Str} {i c : Nat} (hi : (i : Int) ≠ 0) (hl : i < x.length) (h : (Txt.item x ((i : Int) - 1) != { cps := #[c] }) = true) : x.cps.toList[i - 1]? ≠ some c := by
  intro e
  have e2 : Txt.item x ((i - 1 : Nat) : Int) = ch c := item_L x e
  rw [show ((i - 1 : Nat) : Int) = (i : Int) - 1 by omega] at e2
  rw [e2] at h
  exact bad_ne h
theorem due_eq {x : Str} {i c : Nat} (hi : (i : Int) ≠ 0) (hl : i < x.length) (h : (Txt.item x ((i : Int) - 1) != { cps := #[c] }) = false) : x.cps.toList[i - 1]? = some c := by
  obtain ⟨d, e⟩ := prev_sign hl
  have e2 : Txt.item x ((i - 1 : Nat) : Int) = ch d := item_L x e
  rw [show ((i - 1 : Nat) : Int) = (i : Int) - 1 by omega] at e2
  rw [e2] at h
  have h' : (ch d != ch c) = false := h
  have h2 : (ch d == ch c) = true := by simpa [bne] using h'
  rw [ch_inj, beq_iff_eq] at h2
  rw [e, h2]
theorem lp_turn {h₀ h' : Heap} {L : Addr} {m' m₀ : Str → Option Value} {x : Str} {stored : List Str} {ps : Obj → List (Str × Value)} {s₁ : Shared} {tk : Nat} {Q : Flow → Shared → Prop} {c1 : Addr} {d lm p2 p3 p4 p5 q : Addr × Obj} {Y rest own : Led} {oc o0 : Obj} {v : Option Value} {i : Nat}
    (F : Fr h₀ L h' m') (N : News h₀ L h' (d :: (c1, oc) :: p2 :: p3 :: p4 :: p5 :: q :: (Y ++ rest ++ own))) (hoc : oc.data = .cell v) (hl : lm ∈ Y) (hoff : OwnOff own (((c1, o0) :: p2 :: p3 :: p4 :: p5 :: q :: (Y ++ rest)).map (·.1)))
    (hp : ∀ p ∈ ps oc, m' p.1 = some p.2) (hr : ∀ z, z ≠ x → (∀ p ∈ ps oc, z ≠ p.1) → stored.contains z = false → m' z = m₀ z) :
    TurnP h₀ L x ps stored m₀ (fun c nx => lm ∈ nx ∧ LpJ c1 p2 p3 p4 p5 q Y rest i c nx) own s₁ Q .next { s₁ with heap := h', toks := tk } := by
  refine TurnP.next oc ((c1, oc) :: p2 :: p3 :: p4 :: p5 :: q :: (Y ++ rest)) F N ?_ ?_ hoff hp hr ⟨.tail _ (.tail _ (.tail _ (.tail _ (.tail _ (.tail _ (List.mem_append_left _ hl)))))), rfl, _, hoc⟩
  · intro p hp
    simp only [List.mem_cons, List.mem_append] at hp ⊢
    rcases hp with h | h | h | h | h | h | h | h <;> simp only [h, true_or, or_true]
  · intro p hp
    simp only [List.mem_cons, List.mem_append, hp, or_true]
theorem sub_thing {p1 p2 c1 c2 c3 : Addr × Obj} {B : Led} : ∀ p ∈ c1 :: c2 :: c3 :: (B ++ [p1, p2]), p ∈ p1 :: p2 :: c1 :: c2 :: c3 :: B := by
  intro p hp
  simp only [List.mem_cons, List.mem_append, List.not_mem_nil, or_false] at hp ⊢
  rcases hp with h | h | h | h | h | h <;> simp only [h, true_or, or_true]
theorem off3_fresh {I C D : Addr} {oI oC oD : Obj} {nw nw' ex : Led} (off : LCg.Off3 I C D nw) (hF : Fresh ex ((I, oI) :: (C, oC) :: (D, oD) :: nw)) (h : ∀ p ∈ nw', (∃ q ∈ nw, q.1 = p.1) ∨ p ∈ ex) : LCg.Off3 I C D nw' :=
  LCg.Off3.of fun p hp => by
    rcases h p hp with ⟨q, hq, e⟩ | h
    · rw [← e]; exact off.mem q hq
    · exact ⟨Nat.ne_of_gt (hF p h (I, oI) (.head _)), Nat.ne_of_gt (hF p h (C, oC) (.tail _ (.head _))), Nat.ne_of_gt (hF p h (D, oD) (.tail _ (.tail _ (.head _))))⟩
end Mine

end
noncomputable section
open PySem PySem.W PyProof.Rows PySem.Spec PySem.Calls
namespace Mine
theorem sr_bd {c d : Int} {i : Nat} (h : c < 700000) (hd : d < 3) (hi : i < (1 + d).toNat) : c + 1 + 16 * (i : Int) < 800000 := by (first | lia | omega)
end Mine
end
noncomputable section
open PySem PySem.W PyProof.Rows PySem.Spec PySem.Calls Builtin Builtin.Str PySem.StrLaws
set_option Elab.async false
set_option maxRecDepth 100000
namespace Mine
theorem hitB_at {x y : Str} {k : Nat} : hitB x.cps.toList y.cps.toList k = true ↔ At x y x.length k := by
  unfold hitB At
  rw [Bool.and_eq_true, decide_eq_true_eq, subAt_eq]
  have h1 : x.cps.toList.length = x.length := L_len x
  have h2 : y.cps.toList.length = y.length := L_len y
  rw [h1, h2]
theorem occ_run (x y : Str) (limit : Nat) : ∀ (l : List Nat) (st : Array Nat × Nat), st.1.size + l.length ≤ limit →
    ((forIn l st (occBody x y x.length limit)).run.fst.toList, (forIn l st (occBody x y x.length limit)).run.snd) = apartL y.cps.toList (l.filter (hitB x.cps.toList y.cps.toList)) (st.1.toList, st.2)
  | [], st, _ => rfl
  | a :: l, st, h => by
    rw [List.forIn_cons]
    rw [List.length_cons] at h
    unfold occBody
    have hy : y.cps.toList.length = y.length := L_len y
    split
    · rename_i hc
      have hh : hitB x.cps.toList y.cps.toList a = true := hitB_at.mpr ⟨hc.1.2, hc.2⟩
      refine (occ_run x y limit l (st.1.push a, a + y.length) (by show (st.1.push a).size + l.length ≤ limit; rw [Array.size_push]; (first | lia | omega))).trans ?_
      rw [List.filter_cons, if_pos hh]
      show _ = apartL _ _ (if st.2 ≤ a then (st.1.toList ++ [a], a + y.cps.toList.length) else (st.1.toList, st.2))
      rw [if_pos hc.1.1.2, hy, Array.toList_push]
    · rename_i hc
      refine (occ_run x y limit l st (by (first | lia | omega))).trans ?_
      rw [List.filter_cons]
      by_cases hh : hitB x.cps.toList y.cps.toList a = true
      · rw [if_pos hh]
        show _ = apartL _ _ (if st.2 ≤ a then (st.1.toList ++ [a], a + y.cps.toList.length) else (st.1.toList, st.2))
        rw [if_neg]
        intro h1
        have hA := hitB_at.mp hh
        exact hc ⟨⟨⟨by (first | lia | omega), h1⟩, hA.1⟩, hA.2⟩
      · rw [if_neg hh]
theorem occ_apart (x y : Str) : occurrences x y 0 x.length (x.length + 1) = apart x.cps.toList y.cps.toList := by
  rw [occ_eq]
  have h := occ_run x y (x.length + 1) (List.range' 0 (x.length + 1 - 0)) ((#[] : Array Nat), 0) (by simp)
  have hx : x.cps.toList.length = x.length := L_len x
  have e := congrArg Prod.fst h
  dsimp only at e
  rw [e]
  unfold apart spots spotsN
  rw [hx, List.range_eq_range']
  rfl
/-- what a loop over the cuts makes -/
noncomputable def madeL (x z : List Nat) (w : Nat) : List Nat → List Nat × Nat → List Nat × Nat
  | [], a => a
  | c :: r, a => madeL x z w r (a.1 ++ (x.take c).drop a.2 ++ z, c + w)
theorem madeL_snoc (x z : List Nat) (w : Nat) : ∀ (cs : List Nat) (c : Nat) (a : List Nat × Nat), madeL x z w (cs ++ [c]) a = (let b := madeL x z w cs a; (b.1 ++ (x.take c).drop b.2 ++ z, c + w))
  | [], c, a => rfl
  | d :: cs, c, a => by
    show madeL x z w (cs ++ [c]) _ = _
    rw [madeL_snoc x z w cs]; rfl
theorem join_cons2 (z p q : Str) (r : List Str) : Str.join z (p :: q :: r) = p ++ z ++ Str.join z (q :: r) := rfl
theorem made_join (x z : Str) (w : Nat) : ∀ (cuts : List Nat) (m : List Nat) (a : Nat), (madeL x.cps.toList z.cps.toList w cuts (m, a)).1 ++ x.cps.toList.drop (madeL x.cps.toList z.cps.toList w cuts (m, a)).2 = m ++ (Str.join z (partsFrom x w a cuts)).cps.toList
  | [], m, a => by
    show m ++ x.cps.toList.drop a = m ++ (strSub x a x.length).cps.toList
    rw [strSub_toList, List.take_of_length_le (by rw [List.length_drop]; have : x.cps.toList.length = x.length := L_len x; (first | lia | omega))]
  | c :: r, m, a => by
    show (madeL x.cps.toList z.cps.toList w r (m ++ (x.cps.toList.take c).drop a ++ z.cps.toList, c + w)).1 ++ x.cps.toList.drop (madeL x.cps.toList z.cps.toList w r (m ++ (x.cps.toList.take c).drop a ++ z.cps.toList, c + w)).2 = _
    rw [made_join x z w r]
    obtain ⟨p, q, e⟩ := partsFrom_ne x w (c + w) r
    show _ = m ++ (Str.join z (strSub x a c :: partsFrom x w (c + w) r)).cps.toList
    rw [e, join_cons2]
    have h1 := L_app (strSub x a c ++ z) (Str.join z (p :: q)); have h2 := L_app (strSub x a c) z
    unfold L at h1 h2
    rw [h1, h2, strSub_toList, List.drop_take]
    simp only [List.append_assoc]
theorem rep_made (x y z : Str) (hy : y.length ≠ 0) : (Txt.replace x y z).cps.toList = (madeL x.cps.toList z.cps.toList y.length (apart x.cps.toList y.cps.toList) ([], 0)).1 ++ x.cps.toList.drop (madeL x.cps.toList z.cps.toList y.length (apart x.cps.toList y.cps.toList) ([], 0)).2 := by
  unfold Txt.replace
  rw [occ_apart]
  have h0 : (y.length == 0) = false := by simpa using hy
  rw [h0, Bool.false_and, Bool.or_false]
  split
  · rename_i h
    rw [List.isEmpty_iff.mp h]
    rfl
  · rw [made_join, glued_eq_join, partsBetween_eq]; rfl
theorem rep_len (x y z : Str) (hy : y.length ≠ 0) : ((Txt.replace x y z).length : Int) = x.length + (apart x.cps.toList y.cps.toList).length * ((z.length : Int) - y.length) := by
  unfold Txt.replace
  rw [occ_apart]
  have h0 : (y.length == 0) = false := by simpa using hy
  rw [h0, Bool.false_and, Bool.or_false]
  split
  · rename_i h
    rw [List.isEmpty_iff.mp h]
    simp
  · have h1 : (glued y (partsBetween x (apart x.cps.toList y.cps.toList) y.length)).length = x.length := by rw [← occ_apart, glued_self]
    rw [size_glued, length_partsBetween, Nat.add_sub_cancel] at h1
    rw [size_glued, length_partsBetween, Nat.add_sub_cancel]
    rw [Int.mul_sub]
    push_cast
    have h1' : ((((partsBetween x (apart x.cps.toList y.cps.toList) y.length).map (·.length)).sum : Nat) : Int) + ((apart x.cps.toList y.cps.toList).length : Int) * (y.length : Int) = x.length := by exact_mod_cast h1
    (first | lia | omega)
end Mine

end
noncomputable section
open PySem PySem.W PyProof.Rows PySem.Spec PySem.Calls Builtin Builtin.Str PySem.StrLaws
set_option Elab.async false
set_option maxRecDepth 100000
namespace Mine
theorem filt_head {p : Nat → Bool} {n i : Nat} (hi : i < n) (hp : p i = true) (hn : ∀ k, k < i → p k = false) : ∃ r, (List.range n).filter p = i :: r := by
  obtain ⟨m, rfl⟩ : ∃ m, n = i + (m + 1) := ⟨n - i - 1, by (first | lia | omega)⟩
  rw [List.range_add, List.filter_append]
  have h0 : (List.range i).filter p = [] := by
    rw [List.filter_eq_nil_iff]
    intro a ha
    rw [hn a (List.mem_range.mp ha)]; decide
  rw [h0, List.nil_append, List.range_succ_eq_map, List.map_cons, List.filter_cons, if_pos (by simpa using hp)]
  exact ⟨_, by rw [Nat.add_zero]⟩
theorem spots_none {x y : Str} (h : ∀ i, ¬ At x y x.length i) : spots x.cps.toList y.cps.toList = [] := by
  unfold spots spotsN
  rw [List.filter_eq_nil_iff]
  intro a _ e
  exact h a (hitB_at.mp e)
theorem spots_first {x y : Str} {i : Nat} (h : At x y x.length i) (hn : ∀ k, k < i → ¬ At x y x.length k) : ∃ r, spots x.cps.toList y.cps.toList = i :: r := by
  unfold spots spotsN
  have hx : x.cps.toList.length = x.length := L_len x
  refine filt_head (by have := h.1; (first | lia | omega)) (hitB_at.mpr h) fun k hk => ?_
  cases e : hitB x.cps.toList y.cps.toList k with
  | false => rfl
  | true => exact absurd (hitB_at.mp e) (hn k hk)
/-- the first place's text -/
def firstT (x y z : Str) : List Nat → Str
  | [] => x
  | s0 :: _ => Txt.slice x none (some (s0 : Int)) ++ z ++ Txt.slice x (some ((s0 : Int) + (y.length : Int))) none
theorem first_L (x y z : Str) (i : Nat) (r : List Nat) : (firstT x y z (i :: r)).cps.toList = x.cps.toList.take i ++ z.cps.toList ++ x.cps.toList.drop (i + y.length) := by
  unfold firstT
  have h1 := L_app (Txt.slice x none (some (i : Int)) ++ z) (Txt.slice x (some ((i : Int) + (y.length : Int))) none)
  have h2 := L_app (Txt.slice x none (some (i : Int))) z
  have h3 := slice_ns x (j := (i : Int)) (by (first | lia | omega))
  have h4 := slice_sn x (i := (i : Int) + (y.length : Int)) (by (first | lia | omega))
  unfold L at h1 h2 h3 h4
  rw [h1, h2, h3, h4]
  rw [show ((i : Int)).toNat = i by (first | lia | omega), show ((i : Int) + (y.length : Int)).toNat = i + y.length by (first | lia | omega)]
theorem first_eq (x y z : Str) : replace1 x y z = firstT x y z (spots x.cps.toList y.cps.toList) := by
  have hx : x.cps.toList.length = x.length := L_len x
  rcases occ_head x y 1 (Nat.le_refl _) with ⟨h0, hn⟩ | ⟨i, r, h0, hA, hn⟩
  · rw [spots_none hn]
    unfold replace1
    rw [h0]; rfl
  · obtain ⟨r', e⟩ := spots_first hA hn
    have hl := occ_length_le x y 0 x.length 1
    rw [h0, List.length_cons] at hl
    have hr : r = [] := List.eq_nil_of_length_eq_zero (by (first | lia | omega))
    subst hr
    apply str_ext
    unfold L
    rw [e, first_L]
    unfold replace1
    rw [h0]
    split
    · rename_i hc
      have hc' : y.length = 0 ∧ z.length = 0 := by simpa using hc
      have hi : i = 0 := by
        by_cases h : i = 0
        · exact h
        · exfalso
          refine hn 0 (by (first | lia | omega)) (hitB_at.mp ?_)
          have hy : y.cps.toList = [] := List.eq_nil_of_length_eq_zero (by have := L_len y; unfold L at this; (first | lia | omega))
          unfold hitB
          rw [hy]; simp
      have hz : z.cps.toList = [] := List.eq_nil_of_length_eq_zero (by have := L_len z; unfold L at this; (first | lia | omega))
      rw [hi, hz, hc'.1]; simp
    · rw [glued_eq_join, partsBetween_eq]
      show (Str.join z [strSub x 0 i, strSub x (i + y.length) x.length]).cps.toList = _
      show (strSub x 0 i ++ z ++ strSub x (i + y.length) x.length).cps.toList = _
      have h1 := L_app (strSub x 0 i ++ z) (strSub x (i + y.length) x.length)
      have h2 := L_app (strSub x 0 i) z
      unfold L at h1 h2
      rw [h1, h2, strSub_toList, strSub_toList, List.take_of_length_le (l := x.cps.toList.drop (i + y.length)) (by rw [List.length_drop]; (first | lia | omega))]
      simp
theorem bad_first {x y z : Str} {P : Prop} (h : (replace1 x y z != firstT x y z (spots x.cps.toList y.cps.toList)) = true) : P := by
  rw [first_eq] at h; exact absurd h (by simp)
theorem apart_range : ∀ (m b f : Nat) (acc : List Nat), f ≤ b → (apartL [] (List.range' b m) (acc, f)).1 = acc ++ List.range' b m
  | 0, b, f, acc, _ => by simp [apartL]
  | m + 1, b, f, acc, h => by
    rw [List.range'_succ]
    show (apartL [] (List.range' (b + 1) m) (if f ≤ b then (acc ++ [b], b + 0) else (acc, f))).1 = _
    rw [if_pos h, apart_range m (b + 1) (b + 0) (acc ++ [b]) (by (first | lia | omega))]
    simp
theorem spots_empty (l : List Nat) : spots l [] = List.range' 0 (l.length + 1) := by
  unfold spots spotsN
  rw [List.filter_eq_self.mpr, List.range_eq_range']
  intro a ha
  have := List.mem_range.mp ha
  unfold hitB
  simp; (first | lia | omega)
theorem apart_empty (l : List Nat) : apart l [] = List.range' 0 (l.length + 1) := by
  unfold apart
  rw [spots_empty, apart_range _ _ _ _ (Nat.le_refl _)]
  simp
theorem put_parts (x z : Str) : ∀ (m a b : Nat), a ≤ b → b + m = x.length → (Str.join z (partsFrom x 0 a (List.range' b (m + 1)))).cps.toList = (x.cps.toList.take b).drop a ++ z.cps.toList ++ (x.cps.toList.drop b).flatMap fun c => c :: z.cps.toList
  | 0, a, b, _, hb => by
    have hx : x.cps.toList.length = x.length := L_len x
    show (strSub x a b ++ z ++ strSub x (b + 0) x.length).cps.toList = _
    have h1 := L_app (strSub x a b ++ z) (strSub x (b + 0) x.length)
    have h2 := L_app (strSub x a b) z
    unfold L at h1 h2
    have d1 : x.cps.toList.drop b = [] := List.drop_eq_nil_of_le (by (first | lia | omega))
    rw [h1, h2, strSub_toList, strSub_toList, List.drop_take, Nat.add_zero, d1]
    simp
  | m + 1, a, b, hab, hb => by
    have hx : x.cps.toList.length = x.length := L_len x
    rw [List.range'_succ]
    have ih := put_parts x z m b (b + 1) (by (first | lia | omega)) (by (first | lia | omega))
    obtain ⟨p, q, e⟩ := partsFrom_ne x 0 b (List.range' (b + 1) (m + 1))
    show (Str.join z (strSub x a b :: partsFrom x 0 (b + 0) (List.range' (b + 1) (m + 1)))).cps.toList = _
    rw [Nat.add_zero, e, join_cons2]
    have h1 := L_app (strSub x a b ++ z) (Str.join z (p :: q))
    have h2 := L_app (strSub x a b) z
    unfold L at h1 h2
    have hlt : b < x.cps.toList.length := by (first | lia | omega)
    have h4 := List.drop_eq_getElem_cons hlt
    have h3 : (x.cps.toList.take (b + 1)).drop b = [x.cps.toList[b]] := by
      rw [List.drop_take, h4, show b + 1 - b = 1 by (first | lia | omega)]; rfl
    rw [h1, h2, ← e, ih, strSub_toList, h3, h4, List.drop_take]
    simp
theorem rep_empty (x z : Str) : (Txt.replace x (Str.ofString "") z).cps.toList = z.cps.toList ++ x.cps.toList.flatMap fun c => c :: z.cps.toList := by
  have hx : x.cps.toList.length = x.length := L_len x
  have hE : (Str.ofString "").cps.toList = [] := L_empty
  have hE0 : (Str.ofString "").length = 0 := by decide +kernel
  unfold Txt.replace
  rw [occ_apart, hE, apart_empty, hE0, hx]
  split
  · rename_i hc
    have hz : z.length = 0 := by
      rw [List.range'_succ] at hc
      simpa using hc
    have hz' : z.cps.toList = [] := List.eq_nil_of_length_eq_zero (by have := L_len z; unfold L at this; (first | lia | omega))
    rw [hz']
    simp
  · rw [glued_eq_join, partsBetween_eq, put_parts x z x.length 0 0 (Nat.le_refl _) (by (first | lia | omega))]
    simp
theorem join_put (l : List Nat) (z : Str) : (Txt.join (Str.ofString "") (l.map fun c => ch c ++ z)).cps.toList = l.flatMap fun c => c :: z.cps.toList := by
  have e : Txt.join (Str.ofString "") (l.map fun c => ch c ++ z) = Str.join (Str.ofString "") (l.map fun c => ch c ++ z) := by unfold Txt.join; first | rfl | exact PySem.StrLaws.glued_eq_join _ _
  have h := join_flat (l.map fun c => ch c ++ z)
  unfold L at h
  rw [e, h]
  induction l with
  | nil => rfl
  | cons c l ih =>
    have h2 := L_app (ch c) z
    unfold L at h2
    rw [List.map_cons, List.map_cons, List.flatten_cons, List.flatMap_cons, h2]
    have ih' := ih (by unfold Txt.join; first | rfl | exact PySem.StrLaws.glued_eq_join _ _) (by have := join_flat (l.map fun c => ch c ++ z); unfold L at this; exact this)
    rw [ih']; rfl
theorem apart_le {x y : Str} (hxl : x.cps.toList.length = x.length) (hx : x.length ≤ 20) : (apart x.cps.toList y.cps.toList).length ≤ 21 := by
  unfold apart
  refine Nat.le_trans (apartL_len _ _ _) ?_
  unfold spots spotsN
  have := List.length_filter_le (hitB x.cps.toList y.cps.toList) (List.range (x.cps.toList.length + 1))
  rw [List.length_range] at this
  simp only [List.length_nil]
  (first | lia | omega)
end Mine

end
noncomputable section
open PySem PySem.W PyProof.Rows PySem.Spec PySem.Calls Builtin Builtin.Str PySem.StrLaws
set_option Elab.async false
set_option maxRecDepth 100000
namespace Mine
/-- y put away from the left, z in its place -/
noncomputable def repL (y z : List Nat) : Nat → List Nat → List Nat
  | 0, l => l
  | _ + 1, [] => []
  | k + 1, c :: l => if (c :: l).take y.length = y then z ++ repL y z k ((c :: l).drop y.length) else c :: repL y z k l
theorem repL_nil (y z : List Nat) (k : Nat) : repL y z k [] = [] := by cases k <;> rfl
theorem repL_fuel {y z : List Nat} (hy : y.length ≠ 0) : ∀ (k j : Nat) (l : List Nat), l.length ≤ k → l.length ≤ j → repL y z k l = repL y z j l
  | k, j, [], _, _ => by rw [repL_nil, repL_nil]
  | 0, j, c :: l, h, _ => by simp at h
  | k + 1, 0, c :: l, _, h => by simp at h
  | k + 1, j + 1, c :: l, h, h' => by
    rw [List.length_cons] at h h'
    unfold repL
    split
    · rw [repL_fuel hy k j _ (by rw [List.length_drop, List.length_cons]; (first | lia | omega)) (by rw [List.length_drop, List.length_cons]; (first | lia | omega))]
    · rw [repL_fuel hy k j l (by (first | lia | omega)) (by (first | lia | omega))]
/-- with as much fuel as the text is long -/
def rep (y z l : List Nat) : List Nat := repL y z l.length l
theorem rep_nil (y z : List Nat) : rep y z [] = [] := repL_nil y z 0
theorem rep_hit {y z l : List Nat} (hy : y.length ≠ 0) (h : l.take y.length = y) : rep y z l = z ++ rep y z (l.drop y.length) := by
  cases l with
  | nil => rw [List.take_nil] at h; rw [← h] at hy; exact absurd rfl hy
  | cons c l =>
    unfold rep
    show repL y z (l.length + 1) (c :: l) = _
    rw [show repL y z (l.length + 1) (c :: l) = (if (c :: l).take y.length = y then z ++ repL y z l.length ((c :: l).drop y.length) else c :: repL y z l.length l) from rfl, if_pos h]
    rw [repL_fuel hy l.length _ _ (by rw [List.length_drop, List.length_cons]; (first | lia | omega)) (Nat.le_refl _)]
theorem rep_miss {y z l : List Nat} {c : Nat} (h : (c :: l).take y.length ≠ y) : rep y z (c :: l) = c :: rep y z l := by
  unfold rep
  show repL y z (l.length + 1) (c :: l) = _
  rw [show repL y z (l.length + 1) (c :: l) = (if (c :: l).take y.length = y then z ++ repL y z l.length ((c :: l).drop y.length) else c :: repL y z l.length l) from rfl, if_neg h]
theorem at_take {x y : Str} {k : Nat} : At x y x.length k ↔ k + y.length ≤ x.length ∧ (x.cps.toList.drop k).take y.cps.toList.length = y.cps.toList := by
  unfold At
  rw [subAt_eq, beq_iff_eq]
  have h2 : y.cps.toList.length = y.length := L_len y
  rw [h2]
theorem not_at {x y : Str} {k : Nat} (h0 : y.length ≠ 0) (h : ¬ At x y x.length k) : (x.cps.toList.drop k).take y.cps.toList.length ≠ y.cps.toList := by
  intro e
  refine h (at_take.mpr ⟨?_, e⟩)
  have h1 := congrArg List.length e
  rw [List.length_take, List.length_drop] at h1
  have h2 : y.cps.toList.length = y.length := L_len y
  have h3 : x.cps.toList.length = x.length := L_len x
  (first | lia | omega)
theorem rep_skip {x y : Str} {z : List Nat} (hy : y.length ≠ 0) : ∀ (m a : Nat), a + m ≤ x.length → (∀ k, a ≤ k → k < a + m → ¬ At x y x.length k) → rep y.cps.toList z (x.cps.toList.drop a) = (x.cps.toList.take (a + m)).drop a ++ rep y.cps.toList z (x.cps.toList.drop (a + m))
  | 0, a, _, _ => by
    rw [Nat.add_zero, List.drop_of_length_le (l := x.cps.toList.take a) (by rw [List.length_take]; (first | lia | omega))]; rfl
  | m + 1, a, h, hn => by
    have h3 : x.cps.toList.length = x.length := L_len x
    have hlt : a < x.cps.toList.length := by (first | lia | omega)
    have e := List.drop_eq_getElem_cons hlt
    have hm := not_at hy (hn a (Nat.le_refl _) (by (first | lia | omega)))
    rw [e] at hm ⊢
    rw [rep_miss hm, rep_skip hy m (a + 1) (by (first | lia | omega)) (fun k h1 h2 => hn k (by (first | lia | omega)) (by (first | lia | omega)))]
    rw [show a + 1 + m = a + (m + 1) by (first | lia | omega)]
    have e2 : (x.cps.toList.take (a + (m + 1))).drop a = x.cps.toList[a] :: (x.cps.toList.take (a + (m + 1))).drop (a + 1) := by
      have hlt2 : a < (x.cps.toList.take (a + (m + 1))).length := by rw [List.length_take]; (first | lia | omega)
      rw [List.drop_eq_getElem_cons hlt2, List.getElem_take]
    rw [e2]; rfl
theorem rep_chain {x y : Str} (z : Str) (hy : y.length ≠ 0) : ∀ (cuts : List Nat) (a f : Nat), a ≤ x.length → ChainG x y x.length a cuts f → (∀ k, f ≤ k → ¬ At x y x.length k) → (Str.join z (partsFrom x y.length a cuts)).cps.toList = rep y.cps.toList z.cps.toList (x.cps.toList.drop a)
  | [], a, f, ha, h, hn => by
    have h3 : x.cps.toList.length = x.length := L_len x
    have e : f = a := h
    subst e
    rw [rep_skip hy (x.length - f) f (by (first | lia | omega)) (fun k h1 _ => hn k h1), show f + (x.length - f) = x.length by (first | lia | omega), ← h3, List.take_length, List.drop_length, rep_nil, List.append_nil]
    show (strSub x f x.length).cps.toList = _
    rw [strSub_toList, List.take_of_length_le (by rw [List.length_drop]; (first | lia | omega))]
  | c :: r, a, f, ha, h, hn => by
    obtain ⟨hac, hA, hno, hr⟩ := h
    have h2 : y.cps.toList.length = y.length := L_len y
    have h3 : x.cps.toList.length = x.length := L_len x
    have hc := at_take.mp hA
    obtain ⟨p, q, e⟩ := partsFrom_ne x y.length (c + y.length) r
    have ih := rep_chain z hy r (c + y.length) f hc.1 hr hn
    show (Str.join z (strSub x a c :: partsFrom x y.length (c + y.length) r)).cps.toList = _
    rw [e, join_cons2]
    have g1 := L_app (strSub x a c ++ z) (Str.join z (p :: q))
    have g2 := L_app (strSub x a c) z
    unfold L at g1 g2
    rw [g1, g2, ← e, ih, strSub_toList]
    rw [rep_skip (z := z.cps.toList) hy (c - a) a (by (first | lia | omega)) (fun k h1 h4 => hno k h1 (by (first | lia | omega))), show a + (c - a) = c by (first | lia | omega)]
    rw [rep_hit (l := x.cps.toList.drop c) (by (first | lia | omega)) hc.2, h2, List.drop_drop, List.drop_take]
    simp only [List.append_assoc]
theorem rep_txt {x y : Str} (z : Str) (hy : y.length ≠ 0) : (Txt.replace x y z).cps.toList = rep y.cps.toList z.cps.toList x.cps.toList := by
  obtain ⟨f, hG, hn⟩ := occ_tight x y (by (first | lia | omega))
  have key := rep_chain z hy _ 0 f (Nat.zero_le _) hG hn
  rw [List.drop_zero] at key
  unfold Txt.replace
  have h0 : (y.length == 0) = false := by simpa using hy
  rw [h0, Bool.false_and, Bool.or_false]
  split
  · rename_i h
    rw [List.isEmpty_iff.mp h] at key
    rw [← key]
    show _ = (strSub x 0 x.length).cps.toList
    rw [sub_whole]
  · rw [glued_eq_join, partsBetween_eq]; exact key
theorem rep_there_back {y : List Nat} (hy : y.length ≠ 0) : ∀ (n : Nat) (l : List Nat), l.length ≤ n → 1 ∉ l → rep [1] y (rep y [1] l) = l
  | _, [], _, _ => by rw [rep_nil, rep_nil]
  | 0, c :: l, h, _ => by simp at h
  | n + 1, c :: l, h, h1 => by
    rw [List.length_cons] at h
    by_cases e : (c :: l).take y.length = y
    · rw [rep_hit hy e, rep_hit (y := [1]) (by decide) (by rfl)]
      show y ++ rep [1] y (rep y [1] ((c :: l).drop y.length)) = _
      rw [rep_there_back hy n _ (by rw [List.length_drop, List.length_cons]; (first | lia | omega)) (fun hm => h1 (List.mem_of_mem_drop hm))]
      have := List.take_append_drop y.length (c :: l)
      rw [e] at this; exact this
    · rw [rep_miss e]
      have hc : ([c] : List Nat) ≠ [1] := fun e2 => h1 (by rw [(List.cons.inj e2).1]; exact .head _)
      rw [rep_miss (y := [1]) (by show [c] ≠ [1]; exact hc), rep_there_back hy n l (by (first | lia | omega)) (fun hm => h1 (.tail _ hm))]
theorem rep_prefix {y : List Nat} (hy : y.length ≠ 0) : ∀ (p l : List Nat), 1 ∉ p → (rep y [1] l).take p.length = p → l.take p.length = p
  | [], _, _, _ => rfl
  | a :: p, [], _, h => by rw [rep_nil] at h; simp at h
  | a :: p, c :: l, h1, h => by
    by_cases e : (c :: l).take y.length = y
    · rw [rep_hit hy e] at h
      exact absurd (List.cons.inj h).1 (fun e2 => h1 (e2 ▸ .head _))
    · rw [rep_miss e] at h
      have h2 := List.cons.inj h
      show c :: l.take p.length = a :: p
      rw [h2.1, rep_prefix hy p l (fun hm => h1 (.tail _ hm)) h2.2]
theorem rep_free {y : List Nat} (hy : y.length ≠ 0) (h1 : 1 ∉ y) : ∀ (n : Nat) (l : List Nat), l.length ≤ n → ∀ k, ((rep y [1] l).drop k).take y.length ≠ y
  | _, [], _, k => by
    rw [rep_nil, List.drop_nil, List.take_nil]
    intro e; rw [← e] at hy; exact hy rfl
  | 0, c :: l, h, _ => by simp at h
  | n + 1, c :: l, h, k => by
    rw [List.length_cons] at h
    by_cases e : (c :: l).take y.length = y
    · rw [rep_hit hy e]
      cases k with
      | zero =>
        intro e2
        cases y with
        | nil => exact hy rfl
        | cons b y => exact h1 (by have := (List.cons.inj e2).1; rw [← this]; exact .head _)
      | succ k =>
        show ((rep y [1] ((c :: l).drop y.length)).drop k).take y.length ≠ y
        exact rep_free hy h1 n _ (by rw [List.length_drop, List.length_cons]; (first | lia | omega)) k
    · cases k with
      | zero =>
        intro e2
        rw [List.drop_zero] at e2
        exact e (rep_prefix hy y (c :: l) h1 e2)
      | succ k =>
        rw [rep_miss e]
        exact rep_free hy h1 n l (by (first | lia | omega)) k
theorem one_L : (Str.ofString "\x01").cps.toList = [1] := by decide +kernel
theorem one_len : (Str.ofString "\x01").length = 1 := by decide +kernel
theorem rep_back {x y : Str} (hy : y.length ≠ 0) (hx : 1 ∉ x.cps.toList) : Txt.replace (Txt.replace x y (Str.ofString "\x01")) (Str.ofString "\x01") y = x := by
  apply str_ext
  unfold L
  have h2 : y.cps.toList.length = y.length := L_len y
  rw [rep_txt y (by rw [one_len]; decide), rep_txt _ hy, one_L]
  exact rep_there_back (by (first | lia | omega)) _ _ (Nat.le_refl _) hx
theorem bad_marked {x y : Str} {P : Prop} (hy : y.length ≠ 0) (h1 : 1 ∉ y.cps.toList) (h : (Builtin.Str.occurrences (Txt.replace x y (Str.ofString "\x01")) y 0 (Txt.replace x y (Str.ofString "\x01")).length 1).isEmpty = false) : P := by
  exfalso
  have h2 : y.cps.toList.length = y.length := L_len y
  rcases occ_head (Txt.replace x y (Str.ofString "\x01")) y 1 (Nat.le_refl _) with ⟨h0, _⟩ | ⟨i, r, _, hA, _⟩
  · rw [h0] at h; cases h
  · have hh := (at_take.mp hA).2
    rw [rep_txt _ hy, one_L] at hh
    exact rep_free (by (first | lia | omega)) h1 _ _ (Nat.le_refl _) i hh
end Mine

end
noncomputable section
open PySem PySem.W PyProof.Rows PySem.Spec PySem.Calls
set_option Elab.async false
set_option maxRecDepth 100000
namespace Mine
/-- a contract with a word of the tokens at the start -/
def FnT (P : Nat → Prop) (K : Params → Frag) (w : World) (f : Addr) (k : Nat) (vs : List Value) (news : Led) (Post : Value → Led → Nat → Prop) : Prop :=
  ∀ (p : Program) (loose : List Str) (mean : ExcName → Option Value) (mg mb : Str → Option Value)
    (dp un : Nat) (gd : Option (List Code)) (cn : Str) (cs : Scope) (a : Addr) (ccd : Value) (cl : List (Str × Addr)) (outer : List Env) (A₀ : Around) (base h₀ : Heap) (L : Addr) (m : Str → Option Value) (s : Shared)
    (Q E : Value → Shared → Prop),
    P s.toks → Below A₀ base outer h₀ → Fr h₀ L s.heap m → (K w.params).In h₀ → News h₀ L s.heap news → Top p loose mean mg mb h₀ → cs.kind = .function → dp + k < recursionLimit → un + 8 * k < cLine →
    (∀ r news' h' tk', Fr h₀ L h' m → News h₀ L h' news' → Post r news' tk' → Q r { s with heap := h', toks := tk' }) →
    wpAny (model PySem.Challenge.rw_nz0043_01.row.toRowW.prog w) (ktrTop dp un gd cn cs L a ccd cl outer) (call (.ref f) vs) Q E s
/-- a text within the law's bounds -/
def ReplacedRightS (K : Params → Frag) : Prop := ∀ (w : World) (x y z : Str) (tx ty tz : Tok) (news : Led), x.length ≤ 20 → y.length ≤ 20 → z.length ≤ 20 → 1 ∉ x.cps.toList → 1 ∉ y.cps.toList → 0 < ty → 0 < tz → (ty = tz → y = z) →
  FnT (fun n => ty < n ∧ tz < n) K w 495 6 [.str x tx, .str y ty, .str z tz] news fun r n _ => n = news ∧ r = .bool true
theorem Nats.nilL {vs : List Value} (h : Nats vs []) : vs = [] := by
  have := Nats.length h; cases vs with | nil => rfl | cons a l => cases this
theorem Nats.consL {vs : List Value} {n : Nat} {ns : List Nat} (h : Nats vs (n :: ns)) : ∃ t vs', vs = .int (n : Int) t :: vs' ∧ Nats vs' ns := by
  unfold Nats at h ⊢
  rw [List.map_cons] at h
  cases h
  exact ⟨_, _, rfl, by assumption⟩
theorem rep_le (x y z : Str) : (Txt.replace x y z).length ≤ x.length + (x.length + 1) * z.length := by
  unfold Txt.replace
  split
  · (first | lia | omega)
  · have h1 := StrLaws.occ_length_le x y 0 x.length (x.length + 1)
    have hy : (Builtin.Str.glued y (Builtin.Str.partsBetween x (Builtin.Str.occurrences x y 0 x.length (x.length + 1)) y.length)).length = x.length := by rw [glued_self]
    rw [size_glued, length_partsBetween, Nat.add_sub_cancel] at hy
    rw [size_glued, length_partsBetween, Nat.add_sub_cancel]
    have h2 : (Builtin.Str.occurrences x y 0 x.length (x.length + 1)).length * z.length ≤ (x.length + 1) * z.length := Nat.mul_le_mul_right _ h1
    (first | lia | omega)
theorem rep_le20 {x y z : Str} {n m : Nat} (hx : x.length ≤ n) (hz : z.length ≤ m) (h : n + (n + 1) * m ≤ 20000) : (Txt.replace x y z).length ≤ 20000 := by
  have h1 := rep_le x y z
  have h2 : (x.length + 1) * z.length ≤ (n + 1) * m := Nat.mul_le_mul (by (first | lia | omega)) hz
  (first | lia | omega)
section
variable {M : Model} {A : Around} {E : Value → Shared → Prop} {s : Shared} {h₀ : Heap} {L : Addr} {m : Str → Option Value} {news : Led}
def CutP (h₀ : Heap) (L : Addr) (m : Str → Option Value) (news : Led) (X : Str) (s : Shared) (v : Value) (s' : Shared) : Prop := ∃ tF h' tk', v = .str X tF ∧ s' = { s with heap := h', toks := tk' } ∧ Fr h₀ L h' m ∧ News h₀ L h' news
/-- a text reckoned on several ways, one way from there on -/
theorem cut_str {t : Sem Value} {X : Str} {Q : Value → Shared → Prop} (_F : Fr h₀ L s.heap m) (_N : News h₀ L s.heap news)
    (h : wpAny M A t (CutP h₀ L m news X s) E s)
    (k : ∀ tF h' tk', s.toks ≤ tk' → Fr h₀ L h' m → News h₀ L h' news → Q (.str X tF) { s with heap := h', toks := tk' }) : wpAny M A t Q E s := by
  refine wpAny_with_toks (Nat.le_refl _) (wpAny_mono h (fun v s' h' => ?_) fun _ _ e _ => e)
  obtain ⟨tF, h1, tk1, rfl, rfl, F, N⟩ := h'
  exact fun hle => k tF h1 tk1 hle F N
end
theorem stop_ifexp {M : Model} {A : Around} {E : Value → Shared → Prop} {s : Shared} {env : Env} {Q : Value → Shared → Prop} {a b c : Expr} {p : Pos} (h : Stop (wpAny M A (eval (.IfExp a b c p) env) Q E s)) : wpAny M A (eval (.IfExp a b c p) env) Q E s := h
theorem spots_nil_ne {l : List Nat} : spots l [] ≠ [] := by
  unfold spots
  rw [spotsN_succ]
  intro h
  have h1 := (List.append_eq_nil_iff.mp h).2
  have h2 : hitB l [] l.length = true := by unfold hitB; simp
  rw [if_pos h2] at h1
  cases h1
theorem str_eq_of {y z : Str} (h : (y == z) = true) : y = z := by simpa using h
theorem str_ne_of {y z : Str} (h : (y == z) = false) : y ≠ z := by simpa using h
theorem len_ne {y : Str} (h : (y == Str.ofString "") = false) : y.length ≠ 0 := by
  intro h0
  refine str_ne_of h ?_
  apply str_ext
  rw [L_empty]
  exact List.eq_nil_of_length_eq_zero (by rw [L_len]; exact h0)
/-- the texts of a sign and what is put behind it -/
theorem strs_snoc {ys : List Value} {cs : List Str} {x : Str} {t : Tok} (h : StrsAre ys cs) : StrsAre (ys ++ [.str x t]) (cs ++ [x]) := by
  induction h with
  | nil => exact StrsAre.cons _ _ .nil
  | cons a b _ ih => exact StrsAre.cons a b ih
theorem strs_step {z : Str} {l : List Nat} {i c : Nat} {ys : List Value} {t : Tok} (hJ : StrsAre ys ((l.take i).map fun c => ch c ++ z)) (hc : l[i]? = some c) : StrsAre (ys ++ [.str (ch c ++ z) t]) ((l.take (i + 1)).map fun c => ch c ++ z) := by
  rw [List.take_add_one, hc, List.map_append]
  exact strs_snoc hJ
theorem sum_put (l : List Nat) (z : Str) : ((l.map fun c => ch c ++ z).map (·.length)).sum = l.length * (1 + z.length) := by
  induction l with
  | nil => simp
  | cons c l ih =>
    rw [List.map_cons, List.map_cons, List.sum_cons, ih, List.length_cons, Nat.succ_mul, Str.length_append]
    have : (ch c).length = 1 := rfl
    (first | lia | omega)
theorem put_bound {l : List Nat} {z : Str} (hl : l.length ≤ 20) (hz : z.length ≤ 20) : ((l.map fun c => ch c ++ z).map (·.length)).sum + (l.map fun c => ch c ++ z).length * (Str.ofString "").length ≤ 16777216 := by
  rw [sum_put, List.length_map, show (Str.ofString "").length = 0 by decide +kernel]
  have : l.length * (1 + z.length) ≤ 20 * 21 := Nat.mul_le_mul hl (by (first | lia | omega))
  (first | lia | omega)
theorem put_len {l : List Nat} {z : Str} (hl : l.length ≤ 20) (hz : z.length ≤ 20) : (Txt.join (Str.ofString "") (l.map fun c => ch c ++ z)).length ≤ 420 := by
  rw [← L_len]
  unfold L
  rw [join_put]
  have : (l.flatMap fun c => c :: z.cps.toList).length = l.length * (1 + z.length) := by
    have hz' : z.cps.toList.length = z.length := L_len z
    clear hl
    induction l with
    | nil => simp
    | cons c l ih => rw [List.flatMap_cons, List.length_append, ih, List.length_cons, List.length_cons, hz', Nat.succ_mul]; (first | lia | omega)
  rw [this]
  exact Nat.le_trans (Nat.mul_le_mul hl (show 1 + z.length ≤ 21 by (first | lia | omega))) (by decide)
theorem rep_put (x z : Str) : Txt.replace x (Str.ofString "") z = z ++ Txt.join (Str.ofString "") (x.cps.toList.map fun c => ch c ++ z) := by
  apply str_ext
  have h := L_app z (Txt.join (Str.ofString "") (x.cps.toList.map fun c => ch c ++ z))
  unfold L at h ⊢
  rw [h, join_put, rep_empty]
structure MdC where
  mk ::
  m : Str
  tm : Tok
  a : Int
  ta : Tok
def MdJ (B : Led) (x z : Str) (w : Nat) (cuts : List Nat) (i : Nat) (c : MdC) (nx : Led) : Prop :=
  nx = B ∧ c.m.cps.toList = (madeL x.cps.toList z.cps.toList w (cuts.take i) ([], 0)).1 ∧ c.a = (((madeL x.cps.toList z.cps.toList w (cuts.take i) ([], 0)).2 : Nat) : Int) ∧ c.m.length ≤ 40 * i
theorem MdJ.step {x z m : Str} {w i n : Nat} {cuts : List Nat} {a : Int} (h1 : m.cps.toList = (madeL x.cps.toList z.cps.toList w (cuts.take i) ([], 0)).1) (h2 : a = (((madeL x.cps.toList z.cps.toList w (cuts.take i) ([], 0)).2 : Nat) : Int)) (hc : cuts[i]? = some n) :
    (m ++ Txt.slice x (some a) (some (n : Int)) ++ z).cps.toList = (madeL x.cps.toList z.cps.toList w (cuts.take (i + 1)) ([], 0)).1 ∧ (n : Int) + (w : Int) = (((madeL x.cps.toList z.cps.toList w (cuts.take (i + 1)) ([], 0)).2 : Nat) : Int) := by
  have e : cuts.take (i + 1) = cuts.take i ++ [n] := by rw [List.take_add_one, hc]; rfl
  rw [e, madeL_snoc]
  refine ⟨?_, by dsimp only; (first | lia | omega)⟩
  have g1 := L_app (m ++ Txt.slice x (some a) (some (n : Int))) z
  have g2 := L_app m (Txt.slice x (some a) (some (n : Int)))
  have g3 := slice_ss x (i := a) (j := (n : Int)) (by (first | lia | omega)) (by (first | lia | omega))
  unfold L at g1 g2 g3
  rw [g1, g2, g3, h1, h2]
  dsimp only
  rw [show ((n : Int)).toNat = n by (first | lia | omega), Int.toNat_natCast]
theorem made_end {x y z m : Str} {a : Int} (hy : y.length ≠ 0) (h1 : m.cps.toList = (madeL x.cps.toList z.cps.toList y.length (apart x.cps.toList y.cps.toList) ([], 0)).1) (h2 : a = (((madeL x.cps.toList z.cps.toList y.length (apart x.cps.toList y.cps.toList) ([], 0)).2 : Nat) : Int)) :
    m ++ Txt.slice x (some a) none = Txt.replace x y z := by
  apply str_ext
  have g1 := L_app m (Txt.slice x (some a) none)
  have g2 := slice_sn x (i := a) (by (first | lia | omega))
  unfold L at g1 g2 ⊢
  rw [g1, g2, rep_made x y z hy, h1, h2, Int.toNat_natCast]
theorem wpAny_toksQ {α : Type} {M : Model} {A : Around} {s : Shared} {t : Sem α} {Q : α → Shared → Prop} {E : Value → Shared → Prop} (h : wpAny M A t (fun a s' => s.toks ≤ s'.toks → Q a s') E s) : wpAny M A t Q E s :=
  wpAny_mono (wpAny_toks_of (Nat.le_refl _) h) (fun _ _ x => x.2 x.1) (fun _ _ x => x.2)
theorem wpAny_toksS {α : Type} {M : Model} {A : Around} {s : Shared} {t : Sem α} {Q : α → Shared → Prop} {E : Value → Shared → Prop} (h : wpAny M A t (fun a s' => Stop (s.toks ≤ s'.toks → Q a s')) E s) : wpAny M A t Q E s :=
  wpAny_mono (wpAny_toks_of (Nat.le_refl _) h) (fun _ _ x => x.2 x.1) (fun _ _ x => x.2)
theorem bad_len {x y z : Str} {n : Nat} {P : Prop} (hy : y.length ≠ 0) (hn : n = (apart x.cps.toList y.cps.toList).length) (h : ((Txt.replace x y z).length : Int) ≠ (x.length : Int) + (n : Int) * ((z.length : Int) - (y.length : Int))) : P := by
  subst hn
  exact absurd (rep_len x y z hy) h
theorem bad_bne {a b : Str} {P : Prop} (h : (a != b) = true) (e : a = b) : P := by subst e; exact absurd h (by simp)
theorem execs_app_eq {env : Env} {post : List Stmt} : ∀ pre : List Stmt, execs (pre ++ post) env = (do match ← execs pre env with | .next => execs post env | f => pure f)
  | [] => rfl
  | st :: pre => by
    show execs (st :: (pre ++ post)) env = _
    rw [execs_cons, execs_cons, execs_app_eq pre]
    refine Eq.trans ?_ (LawfulMonad.bind_assoc (exec st env) _ _).symm
    congr 1
    funext f
    cases f <;> rfl
theorem execs_app {M : Model} {A : Around} {E : Value → Shared → Prop} {env : Env} {Q : Flow → Shared → Prop} {pre post : List Stmt} {s : Shared} (h : wpAny M A (execs pre env) (fun f s' => Stop (s.toks ≤ s'.toks → match f with | .next => wpAny M A (execs post env) Q E s' | f => Q f s')) E s) : wpAny M A (execs (pre ++ post) env) Q E s := by
  rw [execs_app_eq]
  refine wpAny_bind (wpAny_mono (wpAny_toks_of (Nat.le_refl _) h) (fun f s' x => ?_) fun _ _ x => x.2)
  have x2 := x.2 x.1
  cases f with
  | next => exact x2
  | ret v => exact wpAny_pure x2
  | brk => exact wpAny_pure x2
  | cont => exact wpAny_pure x2
end Mine

end
noncomputable section
open PySem PySem.W PyProof.Rows PySem.Spec PySem.Calls
set_option Elab.async false
set_option maxRecDepth 100000
namespace Mine
structure BxC where
  seed : Int
  ts : Tok
  great : Int
  tg : Tok
  small : Bool
def BxJ (B : Led) (_ : Nat) (c : BxC) (nx : Led) : Prop := nx = B ∧ 0 ≤ c.seed ∧ c.seed < 2147483629 ∧ 0 ≤ c.great
theorem ints_at {vs : List Value} {ns : List Int} (h : IntsAre vs ns) {i : Nat} {v : Value} (e : vs[i]? = some v) : ∃ n t, v = .int n t := by
  induction h generalizing i with
  | nil => simp at e
  | cons a b _ ih => cases i with
    | zero => simp only [List.getElem?_cons_zero, Option.some.injEq] at e; exact ⟨_, _, e.symm⟩
    | succ i => simp only [List.getElem?_cons_succ] at e; exact ih e
end Mine

end
noncomputable section
open PySem PySem.W PyProof.Rows PySem.Spec PySem.Calls
set_option Elab.async false
set_option maxRecDepth 100000
namespace Mine
/-- a def over the box that makes at most d draws and answers True -/
def BoxT (K : Params → Frag) (w : World) (f : Addr) (k : Nat) (vs : List Value) (b : Addr) (o : Obj) (sm : Bool) (c : Int) : Prop :=
  ∀ rest : Led, (∀ p ∈ rest, p.1 ≠ b) → Fn K w f k vs ((b, o) :: rest) fun r n _ => ∃ o', n = (b, o') :: rest ∧ (BoxO sm (c + 100) o' ∧ r = .bool true)
def TrRightS (K : Params → Frag) : Prop := ∀ (w : World) (b : Addr) (o : Obj) (sm : Bool) (c : Int) (al : Str) (ta : Tok) (x : Str) (tx : Tok), BoxO sm c o → c < 700000 → Alph al → x.length ≤ 20 → BoxT K w 485 11 [.ref b, .str al ta, .str x tx] b o sm c
def BackRightS (K : Params → Frag) : Prop := ∀ (w : World) (x : Str) (tx : Tok) (al : Str) (ta : Tok) (news : Led), Alph al → x.length ≤ 20 → (∀ c ∈ x.cps.toList, c ∈ al.cps.toList) →
  Fn K w 490 11 [.str x tx, .str al ta] news fun r n _ => n = news ∧ r = .bool true
def PlacesRightS (K : Params → Frag) : Prop := ∀ (w : World) (b : Addr) (o : Obj) (sm : Bool) (c : Int) (x : Str) (tx : Tok) (y : Str) (ty : Tok), BoxO sm c o → c < 700000 → x.length ≤ 20 → y.length ≤ 20 → BoxT K w 500 11 [.ref b, .str x tx, .str y ty] b o sm c
section
variable {K : Params → Frag} {w : World} {f : Addr} {k : Nat} {vs : List Value} {ledger news : Led} {g : Obj → Led} {b : Addr} {o : Obj} {sm : Bool} {c : Int}
theorem boxT_use (S : BoxT K w f k vs b o sm c)
    {p : Program} {loose : List Str} {mean : ExcName → Option Value} {mg mb : Str → Option Value}
    {dp un : Nat} {gd : Option (List Code)} {cn : Str} {cs : Scope} {a : Addr} {ccd : Value} {cl : List (Str × Addr)} {outer : List Env} {A₀ : Around} {base h₀ : Heap} {L : Addr} {m : Str → Option Value} {s : Shared} {hH : Heap} {tk : Nat}
    {Q E : Value → Shared → Prop} (B : Below A₀ base outer h₀) (F : Fr h₀ L hH m) (X : (K w.params).In h₀) (N : News h₀ L hH ledger) (U : UpdF b o ledger g) (T : Top p loose mean mg mb h₀) (hk : cs.kind = .function) (hd : dp + k < recursionLimit) (hu : un + 8 * k < cLine)
    (ret : ∀ o' h' tk', tk ≤ tk' → Fr h₀ L h' m → let n' := g o'; News h₀ L h' n' → BoxO sm (c + 100) o' → Q (.bool true) { s with heap := h', toks := tk' }) :
    wpAny (model PySem.Challenge.rw_nz0043_01.row.toRowW.prog w) (ktrTop dp un gd cn cs L a ccd cl outer) (call (.ref f) vs) Q E { s with heap := hH, toks := tk } :=
  Fn.useU (P := fun r o' _ => BoxO sm (c + 100) o' ∧ r = .bool true) S B F X N U T hk hd hu fun r o' h' tk' hle F' N' ⟨hB', e⟩ => by
    subst e; exact ret o' h' tk' hle F' N' hB'
theorem FnT.use {P : Nat → Prop} {Post : Value → Led → Nat → Prop} (S : FnT P K w f k vs news Post)
    {p : Program} {loose : List Str} {mean : ExcName → Option Value} {mg mb : Str → Option Value}
    {dp un : Nat} {gd : Option (List Code)} {cn : Str} {cs : Scope} {a : Addr} {ccd : Value} {cl : List (Str × Addr)} {outer : List Env} {A₀ : Around} {base h₀ : Heap} {L : Addr} {m : Str → Option Value} {s : Shared}
    {Q E : Value → Shared → Prop} (hP : P s.toks) (B : Below A₀ base outer h₀) (F : Fr h₀ L s.heap m) (X : (K w.params).In h₀) (N : News h₀ L s.heap news) (T : Top p loose mean mg mb h₀) (hk : cs.kind = .function) (hd : dp + k < recursionLimit) (hu : un + 8 * k < cLine)
    (ret : ∀ r news' h' tk', s.toks ≤ tk' → Fr h₀ L h' m → News h₀ L h' news' → Post r news' tk' → Q r { s with heap := h', toks := tk' }) :
    wpAny (model PySem.Challenge.rw_nz0043_01.row.toRowW.prog w) (ktrTop dp un gd cn cs L a ccd cl outer) (call (.ref f) vs) Q E s :=
  wpAny_with_toks (Nat.le_refl _) (S p loose mean mg mb dp un gd cn cs a ccd cl outer A₀ base h₀ L m s (fun r s' => s.toks ≤ s'.toks → Q r s') (fun e s' => s.toks ≤ s'.toks → E e s') hP B F X N T hk hd hu fun r n h' tk' F' N' P hle => ret r n h' tk' hle F' N' P)
end
section
variable {prog : Program} {w : World} {M : Model} {A : Around} {E : Value → Shared → Prop} {s : Shared} {h₀ : Heap} {L : Addr} {m : Str → Option Value} {news : Led}
/-- an item of a list of the ledger at an open place: what holds of all, holds of it -/
theorem item_menu {P : Value → Prop} {value slice : Expr} {l : Addr} {vs : List Value} {nn n : Nat} {k : Int} {u : Tok} {Q : Value → Shared → Prop} (N : News h₀ L s.heap news) (hm : (l, listOf vs.toArray nn) ∈ news) (hn : vs.length = n) (h0 : 0 ≤ k) (h1 : k < (n : Int)) (hl : n ≤ 100)
    (hP : ∀ v ∈ vs, P v) (h : ∀ v, P v → Q v s)
    (hs : subscripted slice false (.ref l) (.int k u) = operate [.ref l, .int k u] (getItem (.ref l) (.int k u)) := by with_unfolding_all rfl) :
    wpAny (model prog w) A (subscriptTail value slice (.ref l) (.int k u)) Q E s := by
  subst hn
  have hk : k.toNat < vs.length := by (first | lia | omega)
  exact item_mem N hm h0 (by (first | lia | omega)) (v := vs[k.toNat]) (by rw [List.getElem?_toArray]; exact List.getElem?_eq_getElem hk) (h _ (hP _ (List.getElem_mem hk))) hs
/-- several ways to a value, one way from there on -/
def CutV (h₀ : Heap) (L : Addr) (m : Str → Option Value) (news : Led) (P : Value → Prop) (s : Shared) (v : Value) (s' : Shared) : Prop := ∃ h' tk', P v ∧ s' = { s with heap := h', toks := tk' } ∧ Fr h₀ L h' m ∧ News h₀ L h' news
theorem cut_val {t : Sem Value} (P : Value → Prop) {Q : Value → Shared → Prop} (_F : Fr h₀ L s.heap m) (_N : News h₀ L s.heap news)
    (h : wpAny M A t (CutV h₀ L m news P s) E s)
    (k : ∀ v h' tk', P v → s.toks ≤ tk' → Fr h₀ L h' m → News h₀ L h' news → Q v { s with heap := h', toks := tk' }) : wpAny M A t Q E s := by
  refine wpAny_with_toks (Nat.le_refl _) (wpAny_mono h (fun v s' h' => ?_) fun _ _ e _ => e)
  obtain ⟨h1, tk1, hP, rfl, F, N⟩ := h'
  exact fun hle => k v h1 tk1 hP hle F N
end
/-- a small number -/
def IntV (lo hi : Int) (v : Value) : Prop := ∃ n t, v = .int n t ∧ lo ≤ n ∧ n ≤ hi
/-- the law's box after i turns -/
def LwJ (b : Addr) (B : Led) (sm : Bool) (i : Nat) (o : Obj) (nx : Led) : Prop := nx = (b, o) :: B ∧ BoxO sm (1000 * i) o
/-- an alphabet without the mark -/
def AlphV (v : Value) : Prop := ∃ al t, v = .str al t ∧ Alph al ∧ ∀ c ∈ al.cps.toList, c ≠ 1
end Mine
namespace Mine
theorem alphV_of {x : Str} {t : Tok} (h0 : 0 < x.length) (h1 : x.length ≤ 10) (h2 : (x.cps.toList.all fun c => decide (c < 200) && decide (c ≠ 1)) = true) : AlphV (.str x t) := by
  refine ⟨x, t, rfl, ⟨h0, h1, fun c hc => ?_⟩, fun c hc => ?_⟩
  · have := List.all_eq_true.mp h2 c hc; rw [Bool.and_eq_true, decide_eq_true_eq] at this; exact this.1
  · have := List.all_eq_true.mp h2 c hc; rw [Bool.and_eq_true, decide_eq_true_eq, decide_eq_true_eq] at this; exact this.2
theorem menu7 {t1 t2 t3 t4 t5 t6 t7 : Tok} : ∀ v ∈ [Value.str (Str.ofString "abc") t1, .str (Str.ofString "aAb") t2, .str (Str.ofString "a-b") t3, .str (Str.ofString "xy1") t4, .str (Str.ofString "z^a") t5, .str (Str.ofString "a\\b") t6, .str (Str.ofString "aab") t7], AlphV v :=
  List.forall_mem_cons.mpr ⟨alphV_of (by decide +kernel) (by decide +kernel) (by decide +kernel), List.forall_mem_cons.mpr ⟨alphV_of (by decide +kernel) (by decide +kernel) (by decide +kernel), List.forall_mem_cons.mpr ⟨alphV_of (by decide +kernel) (by decide +kernel) (by decide +kernel), List.forall_mem_cons.mpr ⟨alphV_of (by decide +kernel) (by decide +kernel) (by decide +kernel), List.forall_mem_cons.mpr ⟨alphV_of (by decide +kernel) (by decide +kernel) (by decide +kernel), List.forall_mem_cons.mpr ⟨alphV_of (by decide +kernel) (by decide +kernel) (by decide +kernel), List.forall_mem_cons.mpr ⟨alphV_of (by decide +kernel) (by decide +kernel) (by decide +kernel), List.forall_mem_nil _⟩⟩⟩⟩⟩⟩⟩
/-- a text to be put -/
def PutV (a b : Nat) (v : Value) : Prop := ∃ z t, v = .str z t ∧ z.length ≤ 20 ∧ @LE.le Nat _ a t ∧ @LT.lt Nat _ t b
/-- a text to be sought: without the mark, its token below b -/
def SoughtV (b : Nat) (v : Value) : Prop := ∃ y t, v = .str y t ∧ y.length ≤ 20 ∧ 1 ∉ y.cps.toList ∧ @LT.lt Nat _ 0 t ∧ @LT.lt Nat _ t b
end Mine
namespace Mine
open PySem.Builtin PySem.Builtin.Str
theorem post_vs_tok {s : Shared} {c : Prop} [Decidable c] {y z : Str} {t : Tok} {Q : Value → Shared → Prop} (h0 : 0 < t) (h1 : t < s.toks)
    (h : (if c then y else z).length ≤ sizeLine ∧ ∀ t' k, 0 < t' → t' < k → s.toks ≤ k → Q (.str (if c then y else z) t') { s with toks := k }) :
    (if c then Made.val (.str y t) else Made.str z).post Q s := by
  by_cases hc : c
  · rw [if_pos hc]; have h' := h.2 t s.toks h0 h1 (Nat.le_refl _); rw [if_pos hc] at h'; exact h'
  · rw [if_neg hc]; have h' := h.2 s.toks (s.toks + 1) (Nat.lt_trans h0 h1) (Nat.lt_succ_self _) (Nat.le_succ _); have h2 := h.1; rw [if_neg hc] at h' h2; exact ⟨h2, h'⟩
section
variable {prog : Program} {w : World} {A : Around} {E : Value → Shared → Prop} {s : Shared} {value slice : Expr} {x : Str} {t : Tok} {h₀ : Heap} {L : Addr} {m : Str → Option Value} {news : List (Addr × Obj)} {Q : Value → Shared → Prop}
theorem slice_tok_ns {j : Int} {uj : Tok} (hF : Fr h₀ L s.heap m) (hN : News h₀ L s.heap news) (h0 : @LT.lt Nat _ 0 t) (h1 : @LT.lt Nat _ t s.toks) (hx : x.length ≤ 1000)
    (h : ∀ h' t' k, Fr h₀ L h' m → News h₀ L h' news → (Txt.slice x none (some j)).length ≤ x.length → @LT.lt Nat _ 0 t' → @LT.lt Nat _ t' k → @LE.le Nat _ s.toks k → Q (.str (Txt.slice x none (some j)) t') { s with heap := h', toks := k })
    (hs : subscripted slice false (.str x t) (.ref s.heap.objs.size) = operate [.ref s.heap.objs.size, .str x t] (getItem (.str x t) (.ref s.heap.objs.size)) := by with_unfolding_all rfl)
    (ht : ∀ r, letTemporaryGo value (.str x t) r = pure () := by intro _; with_unfolding_all rfl) :
    wpAny (model prog w) A (subscriptTail value slice (.str x t) (.ref s.heap.objs.size)) Q E { s with heap := s.heap.push { cls := .type "slice", data := .fields #[.none, .int j uj, .none] } } :=
  tail_of_ItemOn ⟨"str", _, F.slot_str_getitem.lookup, typeIs_str _ _ _, wpAny_getItem_str_slice (l := none) (u := some (j, uj)) (st := none) ⟨_, Heap.get?_push_size _ rfl, rfl, rfl⟩ rfl
    (post_vs_tok h0 h1 ⟨Nat.le_trans (Txt.slice_le x _ _) (Nat.le_trans hx (by rw [PySem.sizeLine_eq]; decide)), fun t' k a b c => h _ t' k (Fr.pushS hF _) (hN.pushKeep _) (PyProof.Txt.length_slice_le x _ _) a b c⟩)⟩ hs ht
theorem slice_tok_ss {i j : Int} {ui uj : Tok} (hF : Fr h₀ L s.heap m) (hN : News h₀ L s.heap news) (h0 : @LT.lt Nat _ 0 t) (h1 : @LT.lt Nat _ t s.toks) (hx : x.length ≤ 1000)
    (h : ∀ h' t' k, Fr h₀ L h' m → News h₀ L h' news → (Txt.slice x (some i) (some j)).length ≤ x.length → @LT.lt Nat _ 0 t' → @LT.lt Nat _ t' k → @LE.le Nat _ s.toks k → Q (.str (Txt.slice x (some i) (some j)) t') { s with heap := h', toks := k })
    (hs : subscripted slice false (.str x t) (.ref s.heap.objs.size) = operate [.ref s.heap.objs.size, .str x t] (getItem (.str x t) (.ref s.heap.objs.size)) := by with_unfolding_all rfl)
    (ht : ∀ r, letTemporaryGo value (.str x t) r = pure () := by intro _; with_unfolding_all rfl) :
    wpAny (model prog w) A (subscriptTail value slice (.str x t) (.ref s.heap.objs.size)) Q E { s with heap := s.heap.push { cls := .type "slice", data := .fields #[.int i ui, .int j uj, .none] } } :=
  tail_of_ItemOn ⟨"str", _, F.slot_str_getitem.lookup, typeIs_str _ _ _, wpAny_getItem_str_slice (l := some (i, ui)) (u := some (j, uj)) (st := none) ⟨_, Heap.get?_push_size _ rfl, rfl, rfl⟩ rfl
    (post_vs_tok h0 h1 ⟨Nat.le_trans (Txt.slice_le x _ _) (Nat.le_trans hx (by rw [PySem.sizeLine_eq]; decide)), fun t' k a b c => h _ t' k (Fr.pushS hF _) (hN.pushKeep _) (PyProof.Txt.length_slice_le x _ _) a b c⟩)⟩ hs ht
end
theorem slice_sub {x : Str} {a : Option Int} {b : Option Int} : ∀ c ∈ (Txt.slice x a b).cps.toList, c ∈ x.cps.toList := by
  intro c hc
  unfold Txt.slice at hc
  split at hc
  · exact hc
  · rw [List.toList_toArray] at hc
    obtain ⟨i, _, e⟩ := List.mem_filterMap.mp hc
    exact Array.mem_toList_iff.mpr (Array.mem_of_getElem? e)
end Mine
namespace Mine
theorem S_len (l : List Nat) : (S l).length = l.length := by rw [← L_len, L_S]
theorem S_cps (l : List Nat) : (S l).cps.toList = l := L_S l
theorem menu5 {l l2 : List Nat} {a1 b1 a2 b2 : Option Int} {t1 t2 t3 t4 t5 : Tok} {b : Nat} (hl : l.length ≤ 20) (hl2 : l2.length ≤ 20) (h1 : ∀ c ∈ l, c ≠ 1) (h2 : ∀ c ∈ l2, c ≠ 1)
    (p1 : @LT.lt Nat _ 0 t1) (q1 : @LT.lt Nat _ t1 b) (p2 : @LT.lt Nat _ 0 t2) (q2 : @LT.lt Nat _ t2 b) (p3 : @LT.lt Nat _ 0 t3) (q3 : @LT.lt Nat _ t3 b) (p4 : @LT.lt Nat _ 0 t4) (q4 : @LT.lt Nat _ t4 b) (p5 : @LT.lt Nat _ 0 t5) (q5 : @LT.lt Nat _ t5 b) :
    ∀ v ∈ [Value.str (Txt.slice (S l) a1 b1) t1, .str (Txt.slice (S l) a2 b2) t2, .str (S l2) t3, .str (Str.ofString "") t4, .str (S l) t5], SoughtV b v := by
  have hs : ∀ a b, (Txt.slice (S l) a b).length ≤ 20 ∧ 1 ∉ (Txt.slice (S l) a b).cps.toList := fun a b => by
    refine ⟨Nat.le_trans (PyProof.Txt.length_slice_le _ _ _) (by rw [S_len]; exact hl), fun h => ?_⟩
    have := slice_sub _ h
    rw [S_cps] at this
    exact h1 _ this rfl
  refine List.forall_mem_cons.mpr ⟨⟨_, _, rfl, (hs _ _).1, (hs _ _).2, p1, q1⟩, List.forall_mem_cons.mpr ⟨⟨_, _, rfl, (hs _ _).1, (hs _ _).2, p2, q2⟩, List.forall_mem_cons.mpr ⟨⟨_, _, rfl, ?_, ?_, p3, q3⟩, List.forall_mem_cons.mpr ⟨⟨_, _, rfl, by decide +kernel, by decide +kernel, p4, q4⟩, List.forall_mem_cons.mpr ⟨⟨_, _, rfl, ?_, ?_, p5, q5⟩, List.forall_mem_nil _⟩⟩⟩⟩⟩
  · rw [S_len]; exact hl2
  · rw [S_cps]; exact fun h => h2 _ h rfl
  · rw [S_len]; exact hl
  · rw [S_cps]; exact fun h => h1 _ h rfl
theorem menu4 {t1 t2 t3 t4 : Tok} {a b : Nat} (p1 : @LE.le Nat _ a t1) (q1 : @LT.lt Nat _ t1 b) (p2 : @LE.le Nat _ a t2) (q2 : @LT.lt Nat _ t2 b) (p3 : @LE.le Nat _ a t3) (q3 : @LT.lt Nat _ t3 b) (p4 : @LE.le Nat _ a t4) (q4 : @LT.lt Nat _ t4 b) :
    ∀ v ∈ [Value.str (Str.ofString "") t1, .str (Str.ofString "Q") t2, .str (Str.ofString "ab") t3, .str (Str.ofString "\\") t4], PutV a b v :=
  List.forall_mem_cons.mpr ⟨⟨_, _, rfl, by decide +kernel, p1, q1⟩, List.forall_mem_cons.mpr ⟨⟨_, _, rfl, by decide +kernel, p2, q2⟩, List.forall_mem_cons.mpr ⟨⟨_, _, rfl, by decide +kernel, p3, q3⟩, List.forall_mem_cons.mpr ⟨⟨_, _, rfl, by decide +kernel, p4, q4⟩, List.forall_mem_nil _⟩⟩⟩⟩
end Mine
namespace Mine
/-- a fact to be taken along -/
def Go (P Q : Prop) : Prop := P → Q
theorem Go.intro {P Q : Prop} (h : P → Q) : Go P Q := h
theorem wpAny_toksG {α : Type} {M : Model} {A : Around} {s : Shared} {t : Sem α} {Q : α → Shared → Prop} {E : Value → Shared → Prop} (h : wpAny M A t (fun a s' => Go (@LE.le Nat _ s.toks s'.toks) (Q a s')) E s) : wpAny M A t Q E s :=
  wpAny_mono (wpAny_toks_of (Nat.le_refl _) h) (fun _ _ x => x.2 x.1) (fun _ _ x => x.2)
end Mine
namespace Mine
section
variable {prog : Program} {w : World} {A : Around} {E : Value → Shared → Prop} {s : Shared} {h₀ : Heap} {L : Addr} {news : Led}
/-- an item at an open place, with the tokens' number -/
theorem item_menuT {P : Nat → Value → Prop} {value slice : Expr} {l : Addr} {vs : List Value} {nn n : Nat} {k : Int} {u : Tok} {Q : Value → Shared → Prop} (N : News h₀ L s.heap news) (hm : (l, listOf vs.toArray nn) ∈ news) (hn : vs.length = n) (h0 : 0 ≤ k) (h1 : k < (n : Int)) (hl : n ≤ 100)
    (hP : ∀ v ∈ vs, P s.toks v) (h : ∀ v, P s.toks v → Q v s)
    (hs : subscripted slice false (.ref l) (.int k u) = operate [.ref l, .int k u] (getItem (.ref l) (.int k u)) := by with_unfolding_all rfl) :
    wpAny (model prog w) A (subscriptTail value slice (.ref l) (.int k u)) Q E s := item_menu (P := P s.toks) N hm hn h0 h1 hl hP h hs
end
end Mine
namespace Mine
section
variable {prog : Program} {w : World} {A : Around} {E : Value → Shared → Prop} {s : Shared} {h₀ : Heap} {L : Addr} {news : Led}
theorem ne_nil {D l : Addr} {ys : List Value} {k j : Nat} {Q : Value → Shared → Prop} (N : News h₀ L s.heap news) (h1 : (D, listOf ys.toArray k) ∈ news) (h2 : (l, listOf #[] j) ∈ news) (hu : A.units < cLine) (h : Q (.bool (!ys.isEmpty)) s) :
    wpAny (model prog w) A (compareOp .NotEq (.ref D) (.ref l)) Q E s := by
  cases ys with
  | nil => exact PySem.SeqAt.RcNeAt.lists (e := fun _ => true) (News.isList N h1) (News.isList N h2) rfl hu (fun j h1 _ => absurd h1 (Nat.not_lt_zero _)) prog w E Q h
  | cons y r => exact PySem.SeqAt.RcNeAt.lists_lengths (News.isList N h1) (News.isList N h2) (by simp) hu prog w E Q h
end
end Mine
namespace Mine
theorem Nats.last {vs : List Value} {r : List Nat} {j : Nat} (h : Nats vs (r ++ [j])) : ∃ vs' t, vs = vs' ++ [.int (j : Int) t] := by
  induction r generalizing vs with
  | nil => obtain ⟨t, vs', rfl, h'⟩ := Nats.consL h; exact ⟨[], t, by rw [Nats.nilL h']; rfl⟩
  | cons a r ih =>
    obtain ⟨t, vs', rfl, h'⟩ := Nats.consL h
    obtain ⟨w, u, rfl⟩ := ih h'
    exact ⟨_ :: w, u, rfl⟩
end Mine

end
noncomputable section
open PySem PySem.W PyProof.Rows PySem.Spec PySem.Calls
set_option Elab.async false
set_option maxRecDepth 100000
namespace Mine
/-- the other side of a tr as it is told, and the signs it means -/
inductive AimR : Str → Str → Prop
  | a1 : AimR (Str.ofString "X") (Str.ofString "X")
  | a2 : AimR (Str.ofString "XY") (Str.ofString "XY")
  | a3 : AimR (Str.ofString "") (Str.ofString "")
  | a4 : AimR (Str.ofString "A-D") (Str.ofString "ABCD")
  | a5 : AimR (Str.ofString "1-9") (Str.ofString "123456789")
  | a6 : AimR (Str.ofString "Q\\-") (Str.ofString "Q-")
  | a7 : AimR (Str.ofString "ZYX") (Str.ofString "ZYX")
theorem spr_one {a : Nat} (h : a ≠ 92) : Spr [a] [a] := .one a (fun e => absurd e h) (fun _ _ e => nomatch e) .nil
theorem spr_plain {a b : Nat} {r m : List Nat} (h : a ≠ 92) (hb : b ≠ 45) (hr : Spr (b :: r) m) : Spr (a :: b :: r) (a :: m) := .one a (fun e => absurd e h) (fun _ _ e => hb (List.cons.inj e).1) hr
theorem AimR.spr {z g : Str} (h : AimR z g) : Spr z.cps.toList g.cps.toList ∧ z.length ≤ 1000 ∧ g.cps.toList.length ≤ 10 ∧ ∀ c ∈ g.cps.toList, c < 50000 := by
  cases h
  · exact ⟨(spr_one (by decide) : Spr [88] [88]), by decide +kernel, by decide +kernel, by decide +kernel⟩
  · exact ⟨(spr_plain (by decide) (by decide) (spr_one (by decide)) : Spr [88, 89] [88, 89]), by decide +kernel, by decide +kernel, by decide +kernel⟩
  · exact ⟨(Spr.nil : Spr [] []), by decide +kernel, by decide +kernel, by decide +kernel⟩
  · exact ⟨(Spr.rng 65 68 (by decide) (by decide) (by decide) .nil : Spr [65, 45, 68] [65, 66, 67, 68]), by decide +kernel, by decide +kernel, by decide +kernel⟩
  · exact ⟨(Spr.rng 49 57 (by decide) (by decide) (by decide) .nil : Spr [49, 45, 57] [49, 50, 51, 52, 53, 54, 55, 56, 57]), by decide +kernel, by decide +kernel, by decide +kernel⟩
  · exact ⟨(spr_plain (by decide) (by decide) (Spr.esc 45 .nil) : Spr [81, 92, 45] [81, 45]), by decide +kernel, by decide +kernel, by decide +kernel⟩
  · exact ⟨(spr_plain (by decide) (by decide) (spr_plain (by decide) (by decide) (spr_one (by decide))) : Spr [90, 89, 88] [90, 89, 88]), by decide +kernel, by decide +kernel, by decide +kernel⟩
def AimV (v : Value) : Prop := ∃ z t g, v = .str z t ∧ AimR z g
theorem menuAim {t1 t2 t3 t4 t5 t6 t7 : Tok} : ∀ v ∈ [Value.str (Str.ofString "X") t1, .str (Str.ofString "XY") t2, .str (Str.ofString "") t3, .str (Str.ofString "A-D") t4, .str (Str.ofString "1-9") t5, .str (Str.ofString "Q\\-") t6, .str (Str.ofString "ZYX") t7], AimV v :=
  List.forall_mem_cons.mpr ⟨⟨_, _, _, rfl, .a1⟩, List.forall_mem_cons.mpr ⟨⟨_, _, _, rfl, .a2⟩, List.forall_mem_cons.mpr ⟨⟨_, _, _, rfl, .a3⟩, List.forall_mem_cons.mpr ⟨⟨_, _, _, rfl, .a4⟩, List.forall_mem_cons.mpr ⟨⟨_, _, _, rfl, .a5⟩, List.forall_mem_cons.mpr ⟨⟨_, _, _, rfl, .a6⟩, List.forall_mem_cons.mpr ⟨⟨_, _, _, rfl, .a7⟩, List.forall_mem_nil _⟩⟩⟩⟩⟩⟩⟩
theorem goal_val {v : Value} {z g : Str} {t1 t2 t3 t4 t5 t6 : Tok} (h : AimR z g)
    (hv : PyProof.V.Flat v ((Spec.lookup (PyData.str z) (strData [(Value.str (Str.ofString "A-D") t1, Value.str (Str.ofString "ABCD") t2), (Value.str (Str.ofString "1-9") t3, Value.str (Str.ofString "123456789") t4), (Value.str (Str.ofString "Q\\-") t5, Value.str (Str.ofString "Q-") t6)])).getD (PyData.str z))) :
    ∃ t, v = .str g t := by
  have e : (Spec.lookup (PyData.str z) (strData [(Value.str (Str.ofString "A-D") t1, Value.str (Str.ofString "ABCD") t2), (Value.str (Str.ofString "1-9") t3, Value.str (Str.ofString "123456789") t4), (Value.str (Str.ofString "Q\\-") t5, Value.str (Str.ofString "Q-") t6)])).getD (PyData.str z) = .str g := by
    cases h <;> rfl
  rw [e] at hv
  exact hv.str_inv
/-- the places of c among the first n of l -/
noncomputable def placesL (l : List Nat) (c : Nat) : Nat → List Nat
  | 0 => []
  | n + 1 => placesL l c n ++ (if l[n]? = some c then [n] else [])
theorem placesL_hit {l : List Nat} {c n : Nat} (h : l[n]? = some c) : placesL l c (n + 1) = placesL l c n ++ [n] := by rw [placesL, if_pos h]
theorem placesL_miss {l : List Nat} {c n : Nat} (h : l[n]? ≠ some c) : placesL l c (n + 1) = placesL l c n := by rw [placesL, if_neg h, List.append_nil]
theorem placesL_last (l : List Nat) (c : Nat) : ∀ n, match lastIdx l c n with | none => placesL l c n = [] | some j => ∃ r, placesL l c n = r ++ [j]
  | 0 => rfl
  | n + 1 => by
    unfold lastIdx
    by_cases h : l[n]? = some c
    · rw [if_pos h, placesL_hit h]; exact ⟨_, rfl⟩
    · rw [if_neg h, placesL_miss h]; exact placesL_last l c n
theorem lastIdx_none {l : List Nat} {c : Nat} : ∀ {n : Nat}, lastIdx l c n = none → ∀ j < n, l[j]? ≠ some c
  | 0, _, j, hj => absurd hj (Nat.not_lt_zero _)
  | n + 1, h, j, hj => by
    unfold lastIdx at h
    by_cases e : l[n]? = some c
    · rw [if_pos e] at h; cases h
    · rw [if_neg e] at h
      rcases Nat.lt_succ_iff_lt_or_eq.mp hj with h1 | rfl
      · exact lastIdx_none h j h1
      · exact e
theorem lastIdx_contains (l : List Nat) (c : Nat) : (lastIdx l c l.length).isSome = l.contains c := by
  cases h : lastIdx l c l.length with
  | none =>
    symm
    rw [Option.isSome_none, List.contains_eq_mem, decide_eq_false_iff_not]
    intro hm
    obtain ⟨j, hj, e⟩ := List.mem_iff_getElem.mp hm
    exact lastIdx_none h j hj (by rw [List.getElem?_eq_getElem hj, e])
  | some j =>
    symm
    rw [Option.isSome_some, List.contains_eq_mem, decide_eq_true_eq]
    exact List.mem_of_getElem? (lastIdx_lt h).2
/-- what stands for a sign -/
def trOne (b : Bool) (known others : List Nat) (c : Nat) : List Nat :=
  if known.contains c = b then [c] else if others = [] then [] else [if b = true then others.getLastD 0 else trSign known others c]
theorem trL_snoc (b : Bool) (known others l : List Nat) (c : Nat) : trL b known others (l ++ [c]) = trL b known others l ++ trOne b known others c := by
  unfold trL trOne
  by_cases h0 : others = []
  · rw [if_pos h0, if_pos h0, List.filter_append]
    congr 1
    by_cases h : known.contains c = b
    · rw [if_pos h]; exact List.filter_cons_of_pos (by simp only [isIn, List.all_cons, List.all_nil, Bool.and_true, Bool.not_not, h]; cases b <;> rfl)
    · rw [if_neg h, if_pos h0]
      refine List.filter_cons_of_neg ?_
      simp only [isIn, List.all_cons, List.all_nil, Bool.and_true, Bool.not_not]
      cases hc : known.contains c <;> cases b <;> simp_all
  · rw [if_neg h0, if_neg h0]
    cases b with
    | true =>
      rw [if_pos rfl, if_pos rfl, List.map_append]
      congr 1
      cases hc : known.contains c
      · rw [if_neg (by simp), if_neg h0, if_pos rfl]; simp only [List.map_cons, List.map_nil, hc]; rfl
      · rw [if_pos rfl]; simp only [List.map_cons, List.map_nil, hc]; rfl
    | false =>
      rw [if_neg (by simp), if_neg (by simp), List.map_append]
      congr 1
      have q := lastIdx_contains known c
      cases hc : known.contains c
      · rw [hc] at q
        rw [if_pos rfl]
        simp only [List.map_cons, List.map_nil, trSign]
        cases hl : lastIdx known c known.length with
        | none => rfl
        | some j => rw [hl] at q; cases q
      · rw [if_neg (by simp), if_neg h0, if_neg (by simp)]; rfl
section
variable {prog : Program} {w : World} {A : Around} {E : Value → Shared → Prop} {s : Shared} {h₀ : Heap} {L : Addr} {news : Led}
/-- the sign of a text at a place -/
theorem item_sign {value slice : Expr} {x : Str} {t u : Tok} {i : Int} {j c : Nat} {Q : Value → Shared → Prop} (hi : i = (j : Int)) (hc : x.cps.toList[j]? = some c) (hx : x.length ≤ 1000)
    (h : Q (.str (ch c) s.toks) { s with toks := s.toks + 1 })
    (hs : subscripted slice false (.str x t) (.int i u) = operate [.str x t, .int i u] (getItem (.str x t) (.int i u)) := by with_unfolding_all rfl)
    (ht : ∀ r, letTemporaryGo value (.str x t) r = pure () := by intro _; with_unfolding_all rfl) :
    wpAny (model prog w) A (subscriptTail value slice (.str x t) (.int i u)) Q E s := by
  subst hi
  have hl : x.cps.toList.length = x.length := L_len x
  have h2 := (List.getElem?_eq_some_iff.mp hc).1
  refine KXi.item (n := x.length) rfl (by (first | lia | omega)) (by (first | lia | omega)) (by (first | lia | omega)) (fun _ => ?_) hs ht
  have e : Txt.item x (j : Int) = ch c := item_L x hc
  rw [e]; exact h
end
section
variable {σ : Type} {prog : Program} {w : World} {A : Around} {E : Value → Shared → Prop} {s : Shared} {env : Env} {h₀ : Heap} {body : List Stmt} {Q : Flow → Shared → Prop} {m₀ : Str → Option Value}
/-- a for over a text whose name lives in a cell -/
theorem for_strT {X : Str} {t : Tok} {nm : Str} {pos : Pos} {news : Led} (ps : σ → List (Str × Value)) (x : Str) (stored : List Str) (J : Nat → σ → Led → Prop) (c₀ : σ) (hh : A.handled = none)
    (F : Fr h₀ env.locals s.heap m₀) (N : News h₀ env.locals s.heap news) (hk : ∀ p ∈ ps c₀, m₀ p.1 = some p.2) (hj : J 0 c₀ news)
    (turn : ∀ i v c nx (u : Str → Option Value) h tk own, i < X.cps.size → SignAt X i v → J i c nx → OwnOff own (nx.map (·.1)) → Fr h₀ env.locals h (mapT x stored m₀ u (ps c) (u x)) → News h₀ env.locals h (nx ++ own) →
      wpAny (model prog w) A (assign (.Name nm pos) env v) (fun _ s₃ => wpAny (model prog w) A (execs body env) (TurnP h₀ env.locals x ps stored m₀ (J (i + 1)) own { s with heap := h, toks := tk } Q) E s₃) E { s with heap := h, toks := tk })
    (done : ∀ c nx (u : Str → Option Value) h tk, J X.cps.size c nx → Fr h₀ env.locals h (mapT x stored m₀ u (ps c) (u x)) → News h₀ env.locals h nx → Q .next { s with heap := h, toks := tk }) :
    wpAny (model prog w) A (pyIter (.str X t)) (fun it s₂ => TurnsAt prog w A h₀ env (.Name nm pos) body Q E it s₂) E s := by
  refine iter_str fun o St hW live hst => ?_
  refine for_tup (s := { s with heap := s.heap.push o }) (cst := []) ps x stored J c₀ (KTurns.ofWalks (target := .Name nm pos) (hW A hh) (fun i v s Q E _ hQ => wpAny_pure hQ))
    (fun i h st b hb => by rw [List.mem_singleton.mp hb]; exact live i h st) (fun a ha => .inl ha) (fun _ _ _ _ p hp => nomatch hp) (fun h => Nat.ne_of_lt F.ns.lt (List.mem_singleton.mp h)) (fun b hb => by rw [List.mem_singleton.mp hb]; exact next_is_new F)
    (fun p hp hI => absurd (Heap.lt_size (N p hp).1) ((List.mem_singleton.mp hI) ▸ Nat.lt_irrefl _)) hst (F.push _) (fun p hp => ⟨Heap.get?_push_of_some _ (N p hp).1, (N p hp).2⟩) hk hj turn done
end
/-- the signs due so far -/
def TrJ (cS : Addr) (D : Addr) (p2 q : Addr × Obj) (Z : Led) (b : Bool) (known others l : List Nat) (i : Nat) (c : Obj × List Value × Nat) (nx : Led) : Prop :=
  nx = (D, listOf c.2.1.toArray c.2.2) :: (cS, c.1) :: p2 :: q :: Z ∧ (∃ v, c.1.data = .cell v) ∧ Chs c.2.1 (trL b known others (l.take i))
theorem tr_news {h₀ h : Heap} {L : Addr} {p1 p2 p3 p4 p5 p6 : Addr × Obj} {Z : Led} (N : News h₀ L h (p1 :: p2 :: p3 :: p4 :: p5 :: p6 :: Z)) : News h₀ L h (p1 :: p4 :: p5 :: p6 :: Z) := cb_drop N fun p hp => by
  rcases List.mem_cons.mp hp with rfl | hp
  · exact .head _
  · exact .tail _ (.tail _ (.tail _ hp))
theorem trL_nil (b : Bool) (known others : List Nat) : trL b known others [] = [] := by unfold trL; split <;> (try split) <;> rfl
theorem tr_same {b : Bool} {known others l : List Nat} {i c : Nat} {ys : List Value} {t : Tok} (h : Chs ys (trL b known others (l.take i))) (hc : l[i]? = some c) (e : known.contains c = b) : Chs (ys ++ [.str (ch c) t]) (trL b known others (l.take (i + 1))) := by
  rw [List.take_add_one, hc]
  show Chs _ (trL b known others (l.take i ++ [c]))
  rw [trL_snoc, trOne, if_pos e]; exact h.snoc
theorem tr_skip {b : Bool} {known others l : List Nat} {i c : Nat} {ys : List Value} (h : Chs ys (trL b known others (l.take i))) (hc : l[i]? = some c) (e : known.contains c ≠ b) (h0 : others = []) : Chs ys (trL b known others (l.take (i + 1))) := by
  rw [List.take_add_one, hc]
  show Chs _ (trL b known others (l.take i ++ [c]))
  rw [trL_snoc, trOne, if_neg e, if_pos h0, List.append_nil]; exact h
theorem tr_put {b : Bool} {known others l : List Nat} {i c d : Nat} {ys : List Value} {t : Tok} (h : Chs ys (trL b known others (l.take i))) (hc : l[i]? = some c) (e : known.contains c ≠ b) (h0 : others ≠ []) (hd : (if b = true then others.getLastD 0 else trSign known others c) = d) : Chs (ys ++ [.str (ch d) t]) (trL b known others (l.take (i + 1))) := by
  rw [List.take_add_one, hc]
  show Chs _ (trL b known others (l.take i ++ [c]))
  rw [trL_snoc, trOne, if_neg e, if_neg h0, hd]; exact h.snoc
theorem pl_hit {l : List Nat} {i c : Nat} (hi : i < l.length) (h : (ch l[i] == ({ cps := #[c] } : Str)) = true) : l[i]? = some c := by
  have h' : (ch l[i] == ch c) = true := h
  rw [ch_inj] at h'
  rw [List.getElem?_eq_getElem hi]; exact congrArg some (by simpa using h')
theorem pl_miss {l : List Nat} {i c : Nat} (hi : i < l.length) (h : (ch l[i] == ({ cps := #[c] } : Str)) = false) : l[i]? ≠ some c := by
  have h' : (ch l[i] == ch c) = false := h
  rw [ch_inj] at h'
  rw [List.getElem?_eq_getElem hi]; intro e; rw [Option.some.inj e] at h'; simp at h'
theorem goal_nil {g : Str} (h : (g != Str.ofString "") = false) : g.cps.toList = [] := by
  have : g = Str.ofString "" := by simpa using h
  rw [this]; exact L_empty
theorem goal_ne {g : Str} (h : (g != Str.ofString "") = true) : g.cps.toList ≠ [] := by
  intro e
  have : g = Str.ofString "" := str_ext (e.trans L_empty.symm)
  rw [this] at h; simp at h
theorem goal_last {l : List Nat} (h : l ≠ []) : l[l.length - 1]? = some (l.getLastD 0) := by
  rw [← List.getLast?_eq_getElem?, List.getLast?_eq_some_getLast h]
  cases l with
  | nil => exact absurd rfl h
  | cons a r => rw [List.getLastD_cons, List.getLast_eq_getLastD]
theorem trL_len (b : Bool) (known others l : List Nat) : (trL b known others l).length ≤ l.length := by
  unfold trL
  split
  · exact List.length_filter_le _ _
  · split
    · exact Nat.le_of_eq (List.length_map _)
    · exact Nat.le_of_eq (List.length_map _)
theorem tr_len {b : Bool} {known others : List Nat} {x : Str} {i : Nat} {ys : List Value} (h : Chs ys (trL b known others (x.cps.toList.take i))) (hx : x.length ≤ 20) : ys.length ≤ 20 := by
  rw [Chs.length h]
  refine Nat.le_trans (trL_len _ _ _ _) (Nat.le_trans ?_ hx)
  rw [← L_len x]
  exact List.length_take_le' _ _
theorem tr_turn {h₀ h' : Heap} {L : Addr} {m' m₀ : Str → Option Value} {x : Str} {stored : List Str} {s₁ : Shared} {tk : Nat} {Q : Flow → Shared → Prop} {cS D : Addr} {e1 e2 p2 q : Addr × Obj} {Z own : Led} {oc o0 oD : Obj} {v : Option Value} {i : Nat} {ys : List Value} {kk : Nat} {b : Bool} {known others l : List Nat}
    (F : Fr h₀ L h' m') (N : News h₀ L h' (e1 :: e2 :: (D, listOf ys.toArray kk) :: (cS, oc) :: p2 :: q :: (Z ++ own))) (hoc : oc.data = .cell v) (hoff : OwnOff own (((D, oD) :: (cS, o0) :: p2 :: q :: Z).map (·.1)))
    (hr : ∀ z, z ≠ x → (∀ p ∈ ([] : List (Str × Value)), z ≠ p.1) → stored.contains z = false → m' z = m₀ z) (hC : Chs ys (trL b known others (l.take i))) :
    TurnP h₀ L x (fun _ => []) stored m₀ (TrJ cS D p2 q Z b known others l i) own s₁ Q .next { s₁ with heap := h', toks := tk } := by
  refine TurnP.next ⟨oc, ys, kk⟩ ((D, listOf ys.toArray kk) :: (cS, oc) :: p2 :: q :: Z) F N ?_ ?_ hoff (List.forall_mem_nil _) hr ⟨rfl, ⟨_, hoc⟩, hC⟩
  · intro p hp
    simp only [List.mem_cons, List.mem_append] at hp ⊢
    rcases hp with h | h | h | h | h <;> simp only [h, true_or, or_true]
  · intro p hp
    simp only [List.mem_cons, List.mem_append, hp, or_true]
end Mine

end
noncomputable section
open PySem PySem.W PyProof.Rows PySem.Spec PySem.Calls
set_option Elab.async false
set_option maxRecDepth 100000
namespace Mine
/-- the signs among the first n, each once -/
noncomputable def uniqN (al : List Nat) : Nat → List Nat
  | 0 => []
  | n + 1 => uniqN al n ++ (match al[n]? with | some c => if c ∈ al.take n then [] else [c] | none => [])
theorem uniq_hit {al : List Nat} {n c : Nat} (h : al[n]? = some c) (hn : c ∉ al.take n) : uniqN al (n + 1) = uniqN al n ++ [c] := by rw [uniqN, h]; dsimp only; rw [if_neg hn]
theorem uniq_miss {al : List Nat} {n c : Nat} (h : al[n]? = some c) (hn : c ∈ al.take n) : uniqN al (n + 1) = uniqN al n := by rw [uniqN, h]; dsimp only; rw [if_pos hn, List.append_nil]
theorem uniq_mem (al : List Nat) : ∀ n c, c ∈ uniqN al n ↔ c ∈ al.take n
  | 0, c => by simp [uniqN]
  | n + 1, c => by
    cases h : al[n]? with
    | none =>
      rw [uniqN, h, List.take_add_one, h]; dsimp only
      rw [List.append_nil, Option.toList_none, List.append_nil]; exact uniq_mem al n c
    | some d =>
      rw [List.take_add_one, h]
      by_cases hn : d ∈ al.take n
      · rw [uniq_miss h hn, uniq_mem al n c, List.mem_append]
        exact ⟨.inl, fun e => e.elim id fun e => by rw [List.mem_singleton.mp e]; exact hn⟩
      · rw [uniq_hit h hn, List.mem_append, List.mem_append, uniq_mem al n c]; rfl
theorem uniq_nodup (al : List Nat) : ∀ n, (uniqN al n).Nodup
  | 0 => List.nodup_nil
  | n + 1 => by
    cases h : al[n]? with
    | none => rw [uniqN, h]; dsimp only; rw [List.append_nil]; exact uniq_nodup al n
    | some d =>
      by_cases hn : d ∈ al.take n
      · rw [uniq_miss h hn]; exact uniq_nodup al n
      · rw [uniq_hit h hn, List.nodup_append]
        refine ⟨uniq_nodup al n, by simp, fun a ha b hb => ?_⟩
        rw [List.mem_singleton.mp hb]
        rintro rfl
        exact hn ((uniq_mem al n _).mp ha)
theorem uniq_len (al : List Nat) : ∀ n, (uniqN al n).length ≤ n
  | 0 => Nat.le_refl _
  | n + 1 => by
    have := uniq_len al n
    rw [uniqN, List.length_append]
    split
    · split
      · simp only [List.length_nil]; (first | lia | omega)
      · simp only [List.length_singleton]; (first | lia | omega)
    · simp only [List.length_nil]; (first | lia | omega)
theorem lastIdx_of {l : List Nat} {c j : Nat} (h : l[j]? = some c) (hu : ∀ k, l[k]? = some c → k = j) : lastIdx l c l.length = some j := by
  cases e : lastIdx l c l.length with
  | none => exact absurd h (lastIdx_none e j (List.getElem?_eq_some_iff.mp h).1)
  | some k => rw [hu k (lastIdx_lt e).2]
theorem nodup_at {l : List Nat} {c j k : Nat} (hn : l.Nodup) (h : l[j]? = some c) (hk : l[k]? = some c) : k = j := by
  obtain ⟨h1, e1⟩ := List.getElem?_eq_some_iff.mp h
  obtain ⟨h2, e2⟩ := List.getElem?_eq_some_iff.mp hk
  exact List.getElem_inj hn |>.mp (e2.trans e1.symm)
theorem idx_get {l : List Nat} {c : Nat} (h : c ∈ l) : l[l.idxOf c]? = some c := by
  rw [List.getElem?_eq_getElem (List.idxOf_lt_length_iff.mpr h)]; exact congrArg some (List.getElem_idxOf _)
/-- the new signs -/
def freshL (n : Nat) : List Nat := (List.range n).map (200 + ·)
theorem fresh_get {n j : Nat} (h : j < n) : (freshL n)[j]? = some (200 + j) := by
  unfold freshL
  rw [List.getElem?_map, List.getElem?_range h]; rfl
theorem fresh_at {n j c : Nat} (h : (freshL n)[j]? = some c) : c = 200 + j ∧ j < n := by
  have hj : j < n := by have := (List.getElem?_eq_some_iff.mp h).1; unfold freshL at this; simpa using this
  rw [fresh_get hj] at h; exact ⟨(Option.some.inj h).symm, hj⟩
theorem fresh_len (n : Nat) : (freshL n).length = n := by unfold freshL; rw [List.length_map, List.length_range]
theorem back_there {U l : List Nat} (hU : U.Nodup) (h0 : U ≠ []) (hl : ∀ c ∈ l, c ∈ U) : trL false U (freshL U.length) l = l.map fun c => 200 + U.idxOf c := by
  have hF : freshL U.length ≠ [] := fun e => h0 (List.eq_nil_of_length_eq_zero (by rw [← fresh_len U.length, e]; rfl))
  rw [trL_plain hF]
  refine List.map_congr_left fun c hc => ?_
  have hi := List.idxOf_lt_length_iff.mpr (hl c hc)
  rw [trSign, lastIdx_of (idx_get (hl c hc)) fun k hk => nodup_at hU (idx_get (hl c hc)) hk]
  show trVal _ _ = _
  unfold trVal
  rw [fresh_len, Nat.min_eq_left (by (first | lia | omega)), List.getD_eq_getElem?_getD, fresh_get hi]; rfl
theorem back_again {U l : List Nat} (_hU : U.Nodup) (h0 : U ≠ []) (hl : ∀ c ∈ l, c ∈ U) : trL false (freshL U.length) U (l.map fun c => 200 + U.idxOf c) = l := by
  rw [trL_plain h0, List.map_map]
  refine (List.map_congr_left fun c hc => ?_).trans (List.map_id l)
  have hi := List.idxOf_lt_length_iff.mpr (hl c hc)
  show trSign _ _ (200 + U.idxOf c) = c
  have e : lastIdx (freshL U.length) (200 + U.idxOf c) (freshL U.length).length = some (U.idxOf c) :=
    lastIdx_of (fresh_get hi) fun k hk => by have := (fresh_at hk).1; (first | lia | omega)
  rw [trSign, e]
  show trVal _ _ = _
  unfold trVal
  rw [Nat.min_eq_left (by (first | lia | omega)), List.getD_eq_getElem?_getD, idx_get (hl c hc)]; rfl
theorem fresh_spr : ∀ (l : List Nat), (∀ c ∈ l, c ≠ 92 ∧ c ≠ 45) → Spr l l
  | [], _ => .nil
  | a :: r, h => .one a (fun e => absurd e (h a (.head _)).1) (fun b r' e => by subst e; exact (h 45 (.tail _ (.head _))).2 rfl) (fresh_spr r fun c hc => h c (.tail _ hc))
theorem fresh_ok (n : Nat) : ∀ c ∈ freshL n, 200 ≤ c ∧ c < 200 + n := fun c hc => by
  unfold freshL at hc
  obtain ⟨k, hk, rfl⟩ := List.mem_map.mp hc
  have := List.mem_range.mp hk
  (first | lia | omega)
theorem fresh_telx {n : Nat} (h : n ≤ 10) : TelX (S (freshL n)) (false, freshL n) ∧ Spr (S (freshL n)).cps.toList (freshL n) := by
  have hs : Spr (freshL n) (freshL n) := fresh_spr _ fun c hc => by have := fresh_ok n c hc; (first | lia | omega)
  refine ⟨⟨by rw [S_len, fresh_len]; (first | lia | omega), ?_, by rw [fresh_len]; (first | lia | omega), fun c hc => by have := fresh_ok n c hc; (first | lia | omega)⟩, by rw [S_cps]; exact hs⟩
  rw [S_cps]
  exact .inr ⟨rfl, fun r e => by have := fresh_ok n 94 (by rw [e]; exact .head _); (first | lia | omega), hs⟩
/-- the told side: each sign with a backslash ahead -/
def sideS (U : List Nat) : Str := Txt.join (Str.ofString "") (U.map fun c => Str.ofString "\\" ++ ch c)
theorem side_cps (U : List Nat) : (sideS U).cps.toList = U.flatMap fun c => [92, c] := by
  have e : sideS U = Str.join (Str.ofString "") (U.map fun c => Str.ofString "\\" ++ ch c) := by unfold sideS Txt.join; first | rfl | exact PySem.StrLaws.glued_eq_join _ _
  have h := join_flat (U.map fun c => Str.ofString "\\" ++ ch c)
  unfold L at h
  rw [e, h, List.map_map]
  show List.flatten (List.map _ U) = List.flatMap _ U
  rw [← List.flatMap_def]
  refine congrArg (List.flatMap · U) (funext fun c => ?_)
  show (Str.ofString "\\" ++ ch c).cps.toList = _
  have g := L_app (Str.ofString "\\") (ch c)
  unfold L at g
  rw [g, show (Str.ofString "\\").cps.toList = [92] by decide +kernel]; rfl
theorem esc_spr : ∀ (U : List Nat), Spr (U.flatMap fun c => [92, c]) U
  | [] => .nil
  | a :: r => .esc a (esc_spr r)
theorem esc_len : ∀ (U : List Nat), (U.flatMap fun c => [92, c]).length = 2 * U.length
  | [] => rfl
  | a :: r => by rw [List.flatMap_cons, List.length_append, esc_len r, List.length_cons]; simp only [List.length_cons, List.length_nil]; (first | lia | omega)
theorem side_telx {U : List Nat} (h : U.length ≤ 10) (hc : ∀ c ∈ U, c < 200) : TelX (sideS U) (false, U) ∧ Spr (sideS U).cps.toList U ∧ (sideS U).length ≤ 1000 := by
  have hl : (sideS U).length ≤ 1000 := by rw [← L_len, show L (sideS U) = (sideS U).cps.toList from rfl, side_cps, esc_len]; (first | lia | omega)
  refine ⟨⟨hl, ?_, by dsimp only; (first | lia | omega), fun c h' => by have := hc c h'; (first | lia | omega)⟩, by rw [side_cps]; exact esc_spr U, hl⟩
  rw [side_cps]
  refine .inr ⟨rfl, fun r e => ?_, esc_spr U⟩
  cases U with
  | nil => cases e
  | cons a r' => have := (List.cons.inj e).1; cases this
theorem side_sum (U : List Nat) (h : U.length ≤ 10) : ((U.map fun c => Str.ofString "\\" ++ ch c).map (·.length)).sum + (U.map fun c => Str.ofString "\\" ++ ch c).length * (Str.ofString "").length ≤ 16777216 := by
  have e : ∀ U : List Nat, ((U.map fun c => Str.ofString "\\" ++ ch c).map (·.length)).sum = 2 * U.length := fun U => by
    induction U with
    | nil => rfl
    | cons a r ih => rw [List.map_cons, List.map_cons, List.sum_cons, ih, Str.length_append, List.length_cons, show (Str.ofString "\\").length = 1 by decide +kernel, show (ch a).length = 1 from rfl]; (first | lia | omega)
  rw [e, show (Str.ofString "").length = 0 by decide +kernel]
  (first | lia | omega)
theorem fresh_step {ys : List Value} {n i : Nat} {t : Tok} (h : Chs ys ((freshL n).take i)) (hi : i < n) : Chs (ys ++ [.str (ch (200 + i)) t]) ((freshL n).take (i + 1)) := h.step (fresh_get hi)
/-- a sign that is (not) ahead in the alphabet -/
theorem not_in_take {al : Str} {i c : Nat} (h : (Builtin.Str.occurrences (Txt.slice al none (some (i : Int))) (ch c) 0 (Txt.slice al none (some (i : Int))).length 1).isEmpty = true) : c ∉ al.cps.toList.take i := by
  have q := StrLaws.found_one (Txt.slice al none (some (i : Int))) c
  have h' : (Builtin.Str.occurrences (Txt.slice al none (some (i : Int))) (⟨#[c]⟩ : Str) 0 (Txt.slice al none (some (i : Int))).length 1).isEmpty = true := h
  have e := slice_ns al (j := (i : Int)) (by (first | lia | omega))
  unfold L at e
  rw [h', e, Int.toNat_natCast] at q
  intro hm
  rw [decide_eq_true hm] at q
  cases q
theorem in_take {al : Str} {i c : Nat} (h : (Builtin.Str.occurrences (Txt.slice al none (some (i : Int))) (ch c) 0 (Txt.slice al none (some (i : Int))).length 1).isEmpty = false) : c ∈ al.cps.toList.take i := by
  have q := StrLaws.found_one (Txt.slice al none (some (i : Int))) c
  have h' : (Builtin.Str.occurrences (Txt.slice al none (some (i : Int))) (⟨#[c]⟩ : Str) 0 (Txt.slice al none (some (i : Int))).length 1).isEmpty = false := h
  have e := slice_ns al (j := (i : Int)) (by (first | lia | omega))
  unfold L at e
  rw [h', e, Int.toNat_natCast] at q
  exact of_decide_eq_true q.symm
section
variable {prog : Program} {w : World} {A : Around} {E : Value → Shared → Prop} {s : Shared}
theorem index_chs {l : Addr} {vs : List Value} {cs : List Nat} {c : Nat} {t : Tok} {Q : Value → Shared → Prop} (hl : s.heap.IsList l vs.toArray) (hi : Chs vs cs) (hc : c ∈ cs) (hn : cs.Nodup) (hlen : cs.length ≤ 1000)
    (h : Q (.int (cs.idxOf c : Nat) s.toks) { s with toks := s.toks + 1 }) : wpAny (model prog w) A (call (.builtin "list.index") [.ref l, .str (ch c) t]) Q E s := by
  obtain ⟨⟨cls, dd, data, sl⟩, ho, hcl, n, hd⟩ := id hl
  simp only at hcl hd
  subst hcl hd
  have hvl := Chs.length hi
  have hj : cs.idxOf c < cs.length := List.idxOf_lt_length_iff.mpr hc
  have at_ : ∀ j (hj : j < vs.length), isStrOf (ch c) vs[j] = decide (cs[j]? = some c) := fun j hj => by
    obtain ⟨d, t', hd, e⟩ := Chs.at hi (List.getElem?_eq_getElem hj)
    rw [e, hd]
    show (ch d == ch c) = _
    rw [ch_inj]
    by_cases h : d = c
    · subst h; simp
    · simp [h]
  refine call_meets PySem.F.slot_list_index ⟨_, ho, rfl⟩ PySem.F.entry_list_index (PySem.F.args_list_index_2 _ _)
    (SeqAt.list_indexAt l vs.toArray n dd sl (.str (ch c) t) (isStrOf (ch c)) (cs.idxOf c) (by simpa [hvl] using hj) (by (first | lia | omega)) ?_ ?_) ⟨ho, fun y hy => (eq_isStrOf (ch c) t hi y (by simpa using hy)).at _ _, h⟩
  · show isStrOf (ch c) vs[cs.idxOf c] = true
    rw [at_, decide_eq_true_eq]; exact idx_get hc
  · intro j hjs hlt
    show isStrOf (ch c) vs[j] = false
    rw [at_, decide_eq_false_iff_not]
    intro e
    exact Nat.ne_of_lt hlt (nodup_at hn (idx_get hc) e)
end
end Mine
namespace Mine
section
variable {prog : Program} {w : World} {A : Around} {E : Value → Shared → Prop} {s : Shared}
theorem join_side {D : Addr} {ys : List Value} {U : List Nat} {t : Tok} {Q : Value → Shared → Prop} (hl : s.heap.IsList D ys.toArray) (hi : StrsAre ys (U.map fun c => Str.ofString "\\" ++ ch c)) (hU : U.length ≤ 10)
    (h : ∀ t' k, Q (.str (sideS U) t') { s with toks := k }) : wpAny (model prog w) A (call (.builtin "str.join") [.str (Str.ofString "") t, .ref D]) Q E s :=
  join_list hl hi (side_sum U hU) h
end
theorem side_step {U : List Nat} {i c : Nat} {ys : List Value} {t : Tok} (hJ : StrsAre ys ((U.take i).map fun c => Str.ofString "\\" ++ ch c)) (hc : U[i]? = some c) : StrsAre (ys ++ [.str (Str.ofString "\\" ++ ch c) t]) ((U.take (i + 1)).map fun c => Str.ofString "\\" ++ ch c) := by
  rw [List.take_add_one, hc, List.map_append]
  exact strs_snoc hJ
end Mine
namespace Mine
theorem back_end {x : Str} {U : List Nat} {l : List Nat} (hth : trL false U (freshL U.length) x.cps.toList = l) (hba : trL false (freshL U.length) U l = x.cps.toList) :
    Value.bool (S (trL false (freshL U.length) U (S (trL false U (freshL U.length) x.cps.toList)).cps.toList) == x) = .bool true := by
  rw [S_cps, hth, hba, show S x.cps.toList = x from str_ext (L_S _)]; simp
theorem back_bad {x : Str} {U : List Nat} {l : List Nat} {P : Prop} (hth : trL false U (freshL U.length) x.cps.toList = l) (h : (S (trL false U (freshL U.length) x.cps.toList) == S l) = false) : P := by
  rw [hth] at h; simp at h
end Mine

end
noncomputable section
open PySem PySem.W PyProof.Rows PySem.Spec PySem.Calls
set_option Elab.async false
set_option maxRecDepth 100000
namespace Mine
open PySem.Builtin PySem.Builtin.Str PySem.StrLaws
def optI : Option Nat → Int
  | some k => (k : Int)
  | none => -1
/-- None or a number -/
def OptIs (o : Option Nat) (v : Value) : Prop := match o with | some k => ∃ t, v = .int (k : Int) t | none => v = .none
theorem optV_is {o : Option Nat} {a : Int} {t : Tok} (h : a = optI o) : OptIs o (optV a t) := by
  subst h
  cases o with
  | none => exact if_pos (by decide)
  | some k => exact ⟨t, if_neg (by show ¬ (k : Int) < 0; (first | lia | omega))⟩
def leadI (st : Int) (n : Nat) : Int := if 0 ≤ st then st else st + n
def farL (lead : Int) (n : Nat) (sp : List Nat) : List Nat := if 0 ≤ lead ∧ lead ≤ n then sp.filter (fun k => decide (lead ≤ (k : Int))) else []
def nearL (lead : Int) (sp : List Nat) : List Nat := if 0 ≤ lead then sp.filter (fun k => decide ((k : Int) ≤ lead)) else []
theorem fromIndex_nn {n : Nat} {i : Int} (h : 0 ≤ i) : fromIndex n i = i.toNat := by
  unfold fromIndex
  rw [if_neg (by (first | lia | omega))]; (first | lia | omega)
theorem idx_far (x y : Str) (st : Int) : idxA x y st = optI (farL (leadI st x.length) x.length (spots x.cps.toList y.cps.toList)).head? := by
  have hx : x.cps.toList.length = x.length := L_len x
  have e : (if st < 0 then st + (x.length : Int) else st) = leadI st x.length := by unfold leadI; split <;> split <;> (first | lia | omega)
  unfold idxA farL
  rw [e]
  by_cases h : 0 ≤ leadI st x.length ∧ leadI st x.length ≤ x.length
  · rw [if_pos h, if_pos h]
    unfold Txt.find3 spots spotsN
    rw [fromIndex_nn h.1, List.head?_filter, List.find?_filter, hx]
    simp only [Bool.decide_and, Bool.decide_eq_true]
    rcases occ_head_from x y (leadI st x.length).toNat 1 (Nat.le_refl 1) with ⟨h0, hn⟩ | ⟨k, r, h0, hlo, hk, hn⟩
    · rw [h0]
      have : (List.range (x.length + 1)).find? (fun a => hitB x.cps.toList y.cps.toList a && decide (leadI st x.length ≤ (a : Int))) = none := by
        rw [List.find?_eq_none]
        intro i hi hc
        rw [Bool.and_eq_true, decide_eq_true_eq] at hc
        exact hn i (by (first | lia | omega)) (hitB_at.mp hc.1)
      rw [this]; rfl
    · rw [h0]
      have : (List.range (x.length + 1)).find? (fun a => hitB x.cps.toList y.cps.toList a && decide (leadI st x.length ≤ (a : Int))) = some k := by
        rw [List.find?_range_eq_some]
        refine ⟨by rw [Bool.and_eq_true, decide_eq_true_eq]; exact ⟨hitB_at.mpr hk, by (first | lia | omega)⟩, List.mem_range.mpr (by have := hk.1; (first | lia | omega)), fun j hj => ?_⟩
        rw [Bool.not_eq_true', Bool.eq_false_iff]
        intro hc
        rw [Bool.and_eq_true, decide_eq_true_eq] at hc
        exact hn j (by (first | lia | omega)) hj (hitB_at.mp hc.1)
      rw [this]; rfl
  · rw [if_neg h, if_neg h]; rfl
theorem last_range {p : Nat → Bool} : ∀ n, match ((List.range n).filter p).getLast? with | none => ∀ j < n, p j = false | some i => i < n ∧ p i = true ∧ ∀ j, i < j → j < n → p j = false
  | 0 => fun j hj => absurd hj (Nat.not_lt_zero _)
  | n + 1 => by
    have ih := last_range (p := p) n
    rw [List.range_succ, List.filter_append]
    cases hp : p n with
    | true =>
      rw [List.filter_cons_of_pos hp, List.filter_nil, List.getLast?_concat]
      exact ⟨Nat.lt_succ_self _, hp, fun j h1 h2 => absurd h2 (by (first | lia | omega))⟩
    | false =>
      rw [List.filter_cons_of_neg (by rw [hp]; decide), List.filter_nil, List.append_nil]
      cases he : ((List.range n).filter p).getLast? with
      | none =>
        rw [he] at ih
        intro j hj
        rcases Nat.lt_succ_iff_lt_or_eq.mp hj with h | rfl
        · exact ih j h
        · exact hp
      | some i =>
        rw [he] at ih
        refine ⟨Nat.lt_succ_of_lt ih.1, ih.2.1, fun j h1 h2 => ?_⟩
        rcases Nat.lt_succ_iff_lt_or_eq.mp h2 with h | rfl
        · exact ih.2.2 j h1 h
        · exact hp
theorem last_hi (x y : Str) (hi : Nat) : (lastOccurrence x y 0 hi = none ∧ ∀ i, ¬ At x y hi i) ∨ ∃ i, lastOccurrence x y 0 hi = some i ∧ At x y hi i ∧ ∀ k, i < k → ¬ At x y hi k := by
  rw [last_eq]
  have key := last_run x y hi (List.range' 0 (hi + 1 - 0)) [] none (fun _ h => nomatch h) (fun _ h => nomatch h) (by simpa using List.pairwise_lt_range' (s := 0) (n := hi + 1 - 0))
  have mem : ∀ i, At x y hi i → i ∈ [] ++ List.range' 0 (hi + 1 - 0) := fun i h => by have := h.1; simp [List.mem_range'] <;> (first | lia | omega)
  cases hr : (forIn (List.range' 0 (hi + 1 - 0)) none (lastBody x y hi)).run with
  | none => rw [hr] at key; exact .inl ⟨rfl, fun i h => key i (mem i h) h⟩
  | some a => rw [hr] at key; exact .inr ⟨a, rfl, key.1, fun k hk hA => key.2 k (mem k hA) hk hA⟩
theorem ridx_near (x y : Str) (st : Int) : ridxA x y st = optI (nearL (leadI st x.length) (spots x.cps.toList y.cps.toList)).getLast? := by
  have hx : x.cps.toList.length = x.length := L_len x
  have e : (if st < 0 then st + (x.length : Int) else st) = leadI st x.length := by unfold leadI; split <;> split <;> (first | lia | omega)
  unfold ridxA nearL
  rw [e]
  by_cases h : 0 ≤ leadI st x.length
  · rw [if_neg (by (first | lia | omega)), if_pos h]
    unfold rfind4 spots spotsN
    rw [fromIndex_nn (Int.le_refl 0), fromIndex_nn (by (first | lia | omega)), Int.toNat_zero, List.filter_filter, hx]
    generalize leadI st x.length = ld at h ⊢
    have hat : ∀ k, At x y (min (ld + (y.length : Int)).toNat x.length) k ↔ (decide ((k : Int) ≤ ld) && hitB x.cps.toList y.cps.toList k) = true := fun k => by
      rw [Bool.and_eq_true, decide_eq_true_eq, hitB_at]
      unfold At
      constructor
      · intro q; exact ⟨by (first | lia | omega), by (first | lia | omega), q.2⟩
      · intro q; exact ⟨by (first | lia | omega), q.2.2⟩
    have hl := last_range (p := fun k => decide ((k : Int) ≤ ld) && hitB x.cps.toList y.cps.toList k) (x.length + 1)
    rcases last_hi x y (min (ld + (y.length : Int)).toNat x.length) with ⟨h0, hn⟩ | ⟨k, h0, hk, hn⟩
    · rw [h0]
      cases he : ((List.range (x.length + 1)).filter fun k : Nat => decide ((k : Int) ≤ ld) && hitB x.cps.toList y.cps.toList k).getLast? with
      | none => rfl
      | some i => rw [he] at hl; exact absurd ((hat i).mpr hl.2.1) (hn i)
    · rw [h0]
      have hkl : k < x.length + 1 := by have := hk.1; (first | lia | omega)
      cases he : ((List.range (x.length + 1)).filter fun k : Nat => decide ((k : Int) ≤ ld) && hitB x.cps.toList y.cps.toList k).getLast? with
      | none => rw [he] at hl; have := hl k hkl; rw [(hat k).mp hk] at this; cases this
      | some i =>
        rw [he] at hl
        have : i = k := by
          rcases Nat.lt_trichotomy i k with h1 | h1 | h1
          · have := hl.2.2 k h1 hkl; rw [(hat k).mp hk] at this; cases this
          · exact h1
          · exact absurd ((hat i).mpr hl.2.1) (hn i h1)
        rw [this]; rfl
  · rw [if_pos (by (first | lia | omega)), if_neg h]; rfl
theorem far_all (x y : Str) : farL (leadI 0 x.length) x.length (spots x.cps.toList y.cps.toList) = spots x.cps.toList y.cps.toList := by
  have e : leadI 0 x.length = 0 := if_pos (Int.le_refl 0)
  rw [e]
  unfold farL
  rw [if_pos ⟨Int.le_refl 0, by (first | lia | omega)⟩]
  exact List.filter_eq_self.mpr fun k _ => decide_eq_true (by (first | lia | omega))
theorem near_all (x y : Str) : nearL (leadI x.length x.length) (spots x.cps.toList y.cps.toList) = spots x.cps.toList y.cps.toList := by
  have hx : x.cps.toList.length = x.length := L_len x
  unfold nearL leadI
  rw [if_pos (by (first | lia | omega)), if_pos (by (first | lia | omega))]
  exact List.filter_eq_self.mpr fun k hk => decide_eq_true (by have := spots_le k hk; (first | lia | omega))
theorem idx_all (x y : Str) : idxA x y 0 = optI (spots x.cps.toList y.cps.toList).head? := by rw [idx_far, far_all]
theorem ridx_all (x y : Str) : ridxA x y x.length = optI (spots x.cps.toList y.cps.toList).getLast? := by rw [ridx_near, near_all]
section
variable {prog : Program} {w : World} {A : Around} {E : Value → Shared → Prop} {s : Shared}
theorem ne_opt {o : Option Nat} {a b : Value} {Q : Value → Shared → Prop} (h1 : OptIs o a) (h2 : OptIs o b) (h : Q (.bool false) s) : wpAny (model prog w) A (compareOp .NotEq a b) Q E s := by
  cases o with
  | none => obtain rfl : a = .none := h1; obtain rfl : b = .none := h2; exact PySem.EqNone.ne_none_none h
  | some k => obtain ⟨t, rfl⟩ := h1; obtain ⟨u, rfl⟩ := h2; exact ne_int (by simpa using h)
end
theorem insT_at {x y : Str} {d s : Int} (h0 : 0 ≤ d) (h : s = d ∨ s = d - x.length - 1) (h1 : d ≤ x.length) : insT x y s = Txt.slice x none (some d) ++ y ++ Txt.slice x (some d) none := by
  rcases h with rfl | rfl
  · exact insT_1 h0
  · rw [insT_2 (by (first | lia | omega)), show (x.length : Int) + (d - x.length - 1) + 1 = d by (first | lia | omega)]
theorem far_len (lead : Int) (n : Nat) (sp : List Nat) : (farL lead n sp).length ≤ sp.length := by unfold farL; split; exact List.length_filter_le _ _; exact Nat.zero_le _
theorem near_len (lead : Int) (sp : List Nat) : (nearL lead sp).length ≤ sp.length := by unfold nearL; split; exact List.length_filter_le _ _; exact Nat.zero_le _
end Mine
namespace Mine
section
variable {M : Model} {A : Around} {E : Value → Shared → Prop} {s : Shared} {h₀ : Heap} {L : Addr} {m : Str → Option Value} {news : Led}
/-- several ways to a value and a ledger, one way from there on -/
def CutL (h₀ : Heap) (L : Addr) (m : Str → Option Value) (R : Value → Led → Prop) (s : Shared) (v : Value) (s' : Shared) : Prop := ∃ h' tk' nw, R v nw ∧ s' = { s with heap := h', toks := tk' } ∧ Fr h₀ L h' m ∧ News h₀ L h' nw
theorem cut_led {t : Sem Value} (R : Led → Value → Led → Prop) {Q : Value → Shared → Prop} (_F : Fr h₀ L s.heap m) (_N : News h₀ L s.heap news)
    (h : wpAny M A t (CutL h₀ L m (R news) s) E s)
    (k : ∀ v h' tk' nw, R news v nw → s.toks ≤ tk' → Fr h₀ L h' m → News h₀ L h' nw → Q v { s with heap := h', toks := tk' }) : wpAny M A t Q E s := by
  refine wpAny_with_toks (Nat.le_refl _) (wpAny_mono h (fun v s' h' => ?_) fun _ _ e _ => e)
  obtain ⟨h1, tk1, nw, hR, rfl, F, N⟩ := h'
  exact fun hle => k v h1 tk1 nw hR hle F N
end
/-- a new list of numbers -/
def ListR (ns : List Nat) (B : Led) (v : Value) (nw : Led) : Prop := ∃ D vs k, v = .ref D ∧ nw = (D, listOf vs.toArray k) :: B ∧ Nats vs ns ∧ (∀ p ∈ B, p.1 ≠ D)
theorem far_no {lead : Int} {n : Nat} {sp : List Nat} (h : ¬ (0 ≤ lead ∧ lead ≤ n)) : farL lead n sp = [] := if_neg h
theorem near_no {lead : Int} {sp : List Nat} (h : ¬ 0 ≤ lead) : nearL lead sp = [] := if_neg h
theorem filt_yesN {p : Nat → Bool} {l : List Nat} {i n : Nat} {ys : List Value} {t : Tok} (hJ : Nats ys ((l.take i).filter p)) (hc : l[i]? = some n) (h : p n = true) : Nats (ys ++ [.int (n : Int) t]) ((l.take (i + 1)).filter p) := by
  rw [List.take_add_one, hc, List.filter_append]
  show Nats _ (_ ++ [n].filter p)
  rw [List.filter_cons_of_pos h, List.filter_nil]; exact hJ.snoc
theorem filt_noN {p : Nat → Bool} {l : List Nat} {i n : Nat} {ys : List Value} (hJ : Nats ys ((l.take i).filter p)) (hc : l[i]? = some n) (h : p n = false) : Nats ys ((l.take (i + 1)).filter p) := by
  rw [List.take_add_one, hc, List.filter_append]
  show Nats _ (_ ++ [n].filter p)
  rw [List.filter_cons_of_neg (by rw [h]; decide), List.filter_nil, List.append_nil]; exact hJ
end Mine
namespace Mine
theorem spots_len (l s : List Nat) : (spots l s).length ≤ l.length + 1 := by
  unfold spots spotsN
  refine Nat.le_trans (List.length_filter_le _ _) ?_
  rw [List.length_range]; exact Nat.le_refl _
end Mine
namespace Mine
theorem news_tl {h₀ h : Heap} {L : Addr} {p : Addr × Obj} {T Y : Led} (N : News h₀ L h (p :: T)) (e : Y = T) : News h₀ L h (p :: Y) := e ▸ N
theorem news_swap3 {h₀ h : Heap} {L : Addr} {p q r : Addr × Obj} {T : Led} (N : News h₀ L h (p :: q :: r :: T)) : News h₀ L h (q :: r :: p :: T) := cb_drop N fun z hz => by
  rcases List.mem_cons.mp hz with rfl | hz
  · exact .tail _ (.head _)
  · rcases List.mem_cons.mp hz with rfl | hz
    · exact .tail _ (.tail _ (.head _))
    · rcases List.mem_cons.mp hz with rfl | hz
      · exact .head _
      · exact .tail _ (.tail _ (.tail _ hz))
theorem two_of {d s : Int} {t u : Tok} {i : Nat} {v : Value} (h : [Value.int d t, Value.int s u][i]? = some v) : ∃ k tk, v = .int k tk ∧ (k = d ∨ k = s) := by
  match i, h with
  | 0, h => simp only [List.getElem?_cons_zero, Option.some.injEq] at h; exact ⟨_, _, h.symm, .inl rfl⟩
  | 1, h => simp only [List.getElem?_cons_succ, List.getElem?_cons_zero, Option.some.injEq] at h; exact ⟨_, _, h.symm, .inr rfl⟩
  | n + 2, h => simp at h
section
variable {prog : Program} {w : World} {A : Around} {E : Value → Shared → Prop} {s : Shared}
theorem ne_same {x : Str} {t u : Tok} {Q : Value → Shared → Prop} (h : Q (.bool false) s) : wpAny (model prog w) A (compareOp .NotEq (.str x t) (.str x u)) Q E s :=
  PySem.SeqAt.RcNeAt.str_str x t x u prog w E Q (by simpa using h)
end
def KeepJ (B : Led) (_ : Nat) (_ : Unit) (nx : Led) : Prop := nx = B
end Mine
namespace Mine
theorem nil_or_last {α : Type} (l : List α) : l = [] ∨ ∃ r a, l = r ++ [a] := by
  rcases List.eq_nil_or_concat l with h | ⟨r, a, h⟩
  · exact .inl h
  · exact .inr ⟨r, a, by rw [h, List.concat_eq_append]⟩
end Mine

end
section
open PySem PySem.W PyProof.Rows PySem.Spec PySem.Calls
namespace Mine
local macro_rules | `(tactic| k_lt $h:ident) => `(tactic| replace $h := allLt_of $h)
local macro_rules | `(tactic| walk_at "call builtin:str.rfind") => `(tactic| refine Mine.call_rfind4 ?_)
local macro_rules | `(tactic| walk1) => `(tactic| k_extra "hdr9")
local macro_rules | `(tactic| k_all) => `(tactic| k_extra "k_all9")
local macro_rules | `(tactic| k_mem) => `(tactic| k_extra "k_mem9")
local macro_rules | `(tactic| k_ne) => `(tactic| k_extra "k_ne9")
local macro_rules | `(tactic| k_room) => `(tactic| k_extra "k_room9")
local macro_rules | `(tactic| k_size) => `(tactic| k_extra "k_size9")
local macro_rules | `(tactic| k_units) => `(tactic| k_extra "k_units9")
local macro_rules | `(tactic| k_upd) => `(tactic| k_extra "k_upd9")
local macro_rules | `(tactic| k_updF) => `(tactic| k_extra "k_updF9")
local macro_rules | `(tactic| kst_same) => `(tactic| k_extra "kst_same9")
local macro_rules | `(tactic| ksw_same) => `(tactic| k_extra "ksw_same9")
local macro_rules | `(tactic| top_raise0) => `(tactic| k_extra "top_raise09")
local macro_rules | `(tactic| walk_at "binaryOp Pow int int") => `(tactic| (k_here; (with_reducible refine pow_int_small ?kb1 ?kb2 ?kb3 ?_); (case kb1 => decide); (case kb2 => decide); (case kb3 => first | exact take_a (by assumption) (by assumption) (by assumption) (by assumption) | exact take_b (by assumption) (by assumption))))
section
theorem take_spec : TakeS Mine.hd.heap_1 := by
  k_with_none
  k_with "memw" => first | with_reducible exact List.mem_cons_self | (with_reducible refine List.mem_cons_of_mem _ ?_; k_extra "memw") | with_reducible assumption | (with_reducible refine List.mem_append_left _ ?_; k_extra "memw") | (with_reducible refine List.mem_append_right _ ?_; k_extra "memw")
  k_with "sufw" => first | with_reducible exact Mine.sb_refl | with_reducible assumption | (with_reducible refine Mine.sb_tail ?_; k_extra "sufw") | (with_reducible refine Mine.sb_left ?_; k_extra "sufw") | (with_reducible refine Mine.sb_right ?_; k_extra "sufw")
  k_with "subw" => first | k_extra "sufw" | with_reducible exact Mine.sb_nil | (with_reducible refine Mine.sb_cons ?_ ?_; (k_extra "memw"); (k_extra "subw")) | (with_reducible refine Mine.sb_app ?_ ?_; (k_extra "subw"); (k_extra "subw"))
  k_with "inn" => first | with_reducible exact Mine.InN.here | (with_reducible refine Mine.InN.there ?_; k_extra "inn")
  k_with "alln" => first | with_reducible exact Mine.AllN.nil | (with_reducible refine Mine.AllN.co ?_; k_extra "alln") | (with_reducible refine Mine.AllN.nm ?_ ?_; (k_extra "inn"); (k_extra "alln"))
  k_with "evk" => first | ((with_reducible show Mine.Evs _ _ _ _ _ _); first | ((with_reducible apply Mine.Evs.at4 (by with_reducible assumption)); (k_extra "alln"); exact And.intro rfl rfl) | (with_reducible apply Mine.Evs.cons <;> k_extra "evk")) | ((with_reducible show Mine.Ev _ _ (PySem.Expr.Name _ _) _ _ _); (with_reducible apply Mine.Ev.at4 (by with_reducible assumption)); (k_extra "alln"); exact And.intro rfl rfl) | ((with_reducible show Mine.Ev _ _ (PySem.Expr.Constant _ _ _) _ _ _); exact Mine.Ev.atK (And.intro rfl rfl)) | (with_reducible apply Mine.Ev.add <;> k_extra "evk") | (with_reducible apply Mine.Ev.sub <;> k_extra "evk") | (with_reducible apply Mine.Ev.mul <;> first | k_extra "evk" | (try dsimp only; mul_fits)) | (with_reducible apply Mine.Ev.len; exact rfl; k_extra "evk"; first | with_reducible assumption | exact Nat.le_trans (by with_reducible assumption) (by decide) | omega) | exact Mine.EvO.no | (with_reducible apply Mine.EvO.so; k_extra "evk")
  k_with "k_size9" => (simp only [Array.size_push, List.size_toArray, List.length_cons, List.length_nil, List.length_append, List.nil_append, Array.size_empty, List.push_toArray]; first | decide | (first | lia | omega))
  k_with "top_raise09" => ((repeat (first | exact Mine.NeC.here | exact Mine.NeC.last | refine Mine.NeC.there ?_)); done)
  k_with "k_ne9" => ((try dsimp only); first | with_reducible assumption | exact Nat.succ_ne_self _ | exact (Nat.succ_ne_self _).symm | exact Nat.ne_of_lt (by with_reducible assumption) | exact Nat.ne_of_gt (by with_reducible assumption) | exact Mine.al0 (by with_reducible assumption) (by k_extra "memw") | exact Mine.au0 (by with_reducible assumption) (by k_extra "memw") | exact Mine.al1 (by with_reducible assumption) (by k_extra "memw") | exact Mine.al2 (by with_reducible assumption) (by k_extra "memw") | exact Mine.al3 (by with_reducible assumption) (by k_extra "memw") | exact Mine.al4 (by with_reducible assumption) (by k_extra "memw") | exact Mine.al5 (by with_reducible assumption) (by k_extra "memw") | exact Mine.au1 (by with_reducible assumption) (by k_extra "memw") | exact Mine.au2 (by with_reducible assumption) (by k_extra "memw") | exact Mine.au3 (by with_reducible assumption) (by k_extra "memw") | exact Mine.au4 (by with_reducible assumption) (by k_extra "memw") | exact Mine.au5 (by with_reducible assumption) (by k_extra "memw") | exact Mine.of0 (by with_reducible assumption) (by k_extra "memw") | exact Mine.of1 (by with_reducible assumption) (by k_extra "memw") | exact Mine.o1a (by with_reducible assumption) (by k_extra "memw") | exact Mine.o1b (by with_reducible assumption) (by k_extra "memw") | exact Mine.o3I (by with_reducible assumption) (by k_extra "memw") | exact Mine.o3C (by with_reducible assumption) (by k_extra "memw") | exact Mine.o3D (by with_reducible assumption) (by k_extra "memw") | exact Mine.o3i (by with_reducible assumption) (by k_extra "memw") | exact Mine.o3c (by with_reducible assumption) (by k_extra "memw") | exact Mine.o3d (by with_reducible assumption) (by k_extra "memw") | exact Mine.n3a (by with_reducible assumption) | exact Mine.n3b (by with_reducible assumption) | exact Mine.n3c (by with_reducible assumption) | exact Mine.n3d (by with_reducible assumption) | exact Mine.n3e (by with_reducible assumption) | exact Mine.n3f (by with_reducible assumption) | ((first | lia | omega)))
  k_with "k_room9" => first | exact Mine.rm0 (by with_reducible assumption) | exact Mine.rm1 (by with_reducible assumption) (by decide) | exact Mine.rm2 (by with_reducible assumption) (by decide) | decide | ktr_room
  k_with "k_units9" => first | exact Mine.rm0 (by with_reducible assumption) | exact Mine.rm1 (by with_reducible assumption) (by decide) | exact Mine.rm2 (by with_reducible assumption) (by decide) | decide | ktr_units
  k_with "k_all9" => first | with_reducible assumption | exact Mine.as0 (by with_reducible assumption) (by k_extra "subw") | exact Mine.as1 (by with_reducible assumption) (by k_extra "subw") | exact Mine.as2 (by with_reducible assumption) (by k_extra "subw") | exact Mine.as3 (by with_reducible assumption) (by k_extra "subw") | exact Mine.as4 (by with_reducible assumption) (by k_extra "subw") | exact Mine.as5 (by with_reducible assumption) (by k_extra "subw") | (with_reducible refine Mine.off_app ?_ ?_ <;> k_all) | exact Mine.ne_fresh2 (by assumption) (by k_extra "memw") | assumption | exact Mine.ne_of_allLt (by assumption) (by first | exact Nat.le_refl _ | exact Nat.le_succ _ | (first | lia | omega)) | exact Mine.ne_of_lt (by assumption) (by first | exact Nat.le_refl _ | exact Nat.le_succ _ | exact Nat.le_add_right _ 2 | exact Nat.le_add_right _ 3 | (first | lia | omega))
  k_with "k_updF9" => ((with_reducible refine' Mine.updF_app ?c8a ?c8b); (case c8b => k_all); (case c8a => k_updF))
  k_with "k_upd9" => ((with_reducible refine' Mine.upd_app ?c8a ?c8b); (case c8b => k_all); (case c8a => k_upd))
  k_with "k_mem9" => first | k_extra "memw" | exact List.mem_cons_self | ktr_member
  k_with "ksw_same9" => (intro z h2 h3; (repeat' (with_reducible refine Mine.if_skip ?_ ?_)); (all_goals (first | exact Mine.kst_keep' h2 h3 rfl | (have h4 := h2 _ (.head _); exact h4) | (have h4 := h2 _ (.tail _ (.head _)); exact h4) | (have h4 := h2 _ (.tail _ (.tail _ (.head _))); exact h4) | exact Mine.ne_stored h3 (by simp))))
  k_with "kst_same9" => (intro z h1 h2 h3; (repeat' (with_reducible refine Mine.if_skip ?_ ?_)); (all_goals (first | exact h1 | exact Mine.kst_keep' h2 h3 rfl | (have h4 := h2 _ (.head _); exact h4) | (have h4 := h2 _ (.tail _ (.head _)); exact h4) | (have h4 := h2 _ (.tail _ (.tail _ (.head _))); exact h4) | exact Mine.ne_stored h3 (by simp))))
  k_with "hdr9 eval" => with_reducible refine Mine.stop_comp ?_
  k_with "hdr9 eval" => ((with_reducible show PySem.wpAny _ _ (PySem.eval (PySem.Expr.BinOp _ _ _ _) _) _ _ _); (first | (k_dflt refine' Mine.ev_val ?c8o ?c8F ?c8X ?c8T ?c8l ?c8k ?c8v ?_; (case c8o => rfl); (case c8F => k_asm); (case c8X => k_asm); (case c8T => k_asm); (case c8l => first | with_reducible assumption | k_is); (case c8k => first | exact rfl | assumption); (case c8v => k_extra "evk"); k_whole) | (k_dflt refine' Mine.binop_ev ?c8o ?c8F ?c8X ?c8T ?c8l ?c8k ?c8v ?c8u ?_; (case c8o => rfl); (case c8F => k_asm); (case c8X => k_asm); (case c8T => k_asm); (case c8l => first | with_reducible assumption | k_is); (case c8k => first | exact rfl | assumption); (case c8v => k_extra "evk"); (case c8u => k_extra "evk"); k_whole)))
  k_with "hdr9 eval" => ((with_reducible show PySem.wpAny _ _ (PySem.eval (PySem.Expr.Call (PySem.Expr.Name _ _) (_ :: _) [] _) _) _ _ _); (first | (k_dflt refine' Mine.call_ev ?c8o ?c8F ?c8X ?c8T ?c8e ?c8l ?c8g ?c8k ?c8f ?c8d ?c8v ?c8p ?_; (case c8o => rfl); (case c8F => k_asm); (case c8X => k_asm); (case c8T => k_asm); (case c8l => first | with_reducible assumption | k_is); (case c8k => first | exact rfl | assumption); (case c8v => k_extra "evk"); (case c8f => exact rfl); (case c8d => decide); (case c8e => k_is); (case c8g => k_is); (case c8p => exact rfl); k_whole) | (k_dflt refine' Mine.callb_ev ?c8o ?c8F ?c8X ?c8T ?c8e ?c8b ?c8n ?c8l ?c8k ?c8f ?c8d ?c8v ?c8p ?_; (case c8o => rfl); (case c8F => k_asm); (case c8X => k_asm); (case c8T => k_asm); (case c8l => first | with_reducible assumption | k_is); (case c8k => first | exact rfl | assumption); (case c8v => k_extra "evk"); (case c8f => exact rfl); (case c8d => decide); (case c8e => k_is); (case c8b => boot_fast); (case c8n => decide); (case c8p => exact rfl); k_whole)))
  k_with "hdr9 eval" => ((with_reducible show PySem.wpAny _ _ (PySem.eval (PySem.Expr.Compare _ [_] [_] _) _) _ _ _); (k_dflt refine' Mine.cmp_ev ?c8o ?c8F ?c8X ?c8T ?c8l ?c8k ?c8v ?c8u ?c8b ?_; (case c8o => rfl); (case c8F => k_asm); (case c8X => k_asm); (case c8T => k_asm); (case c8l => first | with_reducible assumption | k_is); (case c8k => first | exact rfl | assumption); (case c8v => k_extra "evk"); (case c8u => k_extra "evk"); (case c8b => with_unfolding_all rfl); k_whole))
  k_with "hdr9 eval" => ((with_reducible show PySem.wpAny _ _ (PySem.eval (PySem.Expr.Slice _ _ none _) _) _ _ _); (fail_if_success (have := (by with_reducible assumption : Mine.Md 9))); (fail_if_success (have := (by with_reducible assumption : Mine.Md 22))); (k_dflt refine' Mine.slice_ev ?c8o ?c8F ?c8X ?c8T ?c8l ?c8k ?c8v ?c8u ?_; (case c8o => rfl); (case c8F => k_asm); (case c8X => k_asm); (case c8T => k_asm); (case c8l => first | with_reducible assumption | k_is); (case c8k => first | exact rfl | assumption); (case c8v => k_extra "evk"); (case c8u => k_extra "evk"); k_whole))
  k_with "hdr9 eval" => ((with_reducible show PySem.wpAny _ _ (PySem.eval (PySem.Expr.Subscript _ _ _) _) _ _ _); (k_dflt refine' Mine.sub_ev ?c8o ?c8F ?c8X ?c8T ?c8l ?c8k ?c8v ?c8u ?_; (case c8o => rfl); (case c8F => k_asm); (case c8X => k_asm); (case c8T => k_asm); (case c8l => first | with_reducible assumption | k_is); (case c8k => first | exact rfl | assumption); (case c8v => k_extra "evk"); (case c8u => k_extra "evk"); k_whole))
  k_with "hdr9 call" => ((with_reducible show PySem.wpAny _ _ (PySem.call (PySem.Value.builtin "len") [PySem.Value.str _ _]) _ _ _); (with_reducible refine Mine.len_s ?c8b ?_); (case c8b => first | with_reducible assumption | exact Nat.le_trans (by with_reducible assumption) (by decide)))
  k_with "hdr9 call" => ((with_reducible show PySem.wpAny _ _ (PySem.call (PySem.Value.ref _) _ _) _ _ _); k_dflt ((refine PySem.wpAny_call ?_); k_enter))
  k_with "hdr9 call" => ((with_reducible show PySem.wpAny _ _ (PySem.call (PySem.Value.ref _) _ _) _ _ _); k_extra "call ref")
  k_with "hdr9 call" => ((with_reducible show PySem.wpAny _ _ (PySem.call (PySem.Value.builtin "list.append") [PySem.Value.ref _, _] _) _ _ _); (k_dflt refine' Mine.append_led ?c8kf ?c8kn ?c8ku ?c8kz ?_; (case c8kf => k_asm); (case c8kn => k_asm); (case c8ku => k_upd); (case c8kz => (rw [PySem.sizeLine_eq]; first | decide | exact Nat.le_trans (by with_reducible assumption) (by decide) | exact Nat.le_trans (Nat.succ_le_succ (by with_reducible assumption)) (by decide) | (first | lia | omega))); k_whole); intro h_h F_h n_h N_h; (try dsimp only); (try k_fold))
  k_with "hdr9 call" => ((with_reducible show PySem.wpAny _ _ (PySem.call (PySem.Value.builtin "list.extend") [PySem.Value.ref _, PySem.Value.ref _] _) _ _ _); (k_dflt refine' Mine.extend_2 ?c8kf ?c8kn ?c8ku ?c8kv ?c8kz ?_; (case c8kf => k_asm); (case c8kn => k_asm); (case c8ku => k_ne); (case c8kv => k_all); (case c8kz => (rw [PySem.sizeLine_eq]; first | decide | exact Nat.le_trans (by with_reducible assumption) (by decide) | exact Nat.le_trans (Nat.succ_le_succ (by with_reducible assumption)) (by decide) | (first | lia | omega))); k_whole); intro h_h n_h F_h N_h; (try dsimp only); (try k_fold))
  k_with "hdr9 call" => ((with_reducible show PySem.wpAny _ _ (PySem.call (PySem.Value.builtin "len") [PySem.Value.ref _]) _ _ _); (k_dflt refine' PyProof.Rows.len_list ?c8kl ?c8kf ?_; (case c8kl => exact PyProof.Rows.News.isList (by k_asm) (by k_mem)); (case c8kf => (simp only [List.size_toArray]; (first | lia | omega))); k_whole); (try simp only [List.size_toArray]))
  k_with "hdr9 call" => ((with_reducible show PySem.wpAny _ _ (PySem.call (PySem.Value.builtin "str.join") [PySem.Value.str _ _, PySem.Value.ref _]) _ _ _); (k_dflt refine' Mine.call_join_chs ?c8kn ?c8km ?c8kc ?c8kb ?_; (case c8kn => k_asm); (case c8km => k_mem); (case c8kc => with_reducible assumption); (case c8kb => first | with_reducible assumption | (first | lia | omega)); k_whole); intro t_h k_h; (try dsimp only); (try k_fold))
  k_with "hdr9 call" => with_reducible refine Mine.stop_enum ?_
  k_with "hdr9 call" => ((with_reducible show PySem.wpAny _ _ (PySem.call (PySem.Value.builtin "sorted") [PySem.Value.ref _]) _ _ _); (k_dflt refine' Mine.sorted_two ?c8hF ?c8hN ?c8h1 ?_; (case c8hF => k_asm); (case c8hN => k_asm); (case c8h1 => k_mem)); intro d_h h_h lo_h hi_h t_h u_h e_h F_h n_h N_h l_h hlo_h hab_h; (try dsimp only); (try k_fold))
  k_with "hdr9 call" => ((with_reducible show PySem.wpAny _ _ (PySem.call (PySem.Value.builtin "str.join") [PySem.Value.str _ _, PySem.Value.ref _]) _ _ _); (k_dflt refine' Mine.call_join_tok ?c8kn ?c8km ?c8kc ?c8kb ?c8k0 ?c8ky ?_; (case c8kn => k_asm); (case c8km => k_mem); (case c8kc => with_reducible assumption); (case c8kb => first | with_reducible assumption | (first | lia | omega)); (case c8k0 => with_reducible assumption); (case c8ky => with_reducible assumption); k_whole); intro t_h k_h le_h p_h lt_h; (try dsimp only at le_h); (try dsimp only); (try k_fold))
  k_with "hdr9 exec" => with_reducible refine Mine.stop_for ?_
  k_with "hdr9 exec" => with_reducible refine Mine.stop_while ?_
  k_with "hdr9 exec" => with_reducible refine Mine.stop_asg ?_
  k_with "hdr9 exec" => ((with_reducible show PySem.wpAny _ _ (PySem.exec (PySem.Stmt.Assign [PySem.Expr.Name _ _] _ _) _) _ _ _); (k_dflt refine' Mine.asg_ev ?c8o ?c8F ?c8N ?c8X ?c8T ?c8l ?c8k ?c8v ?c8x ?c8s ?_; (case c8N => k_asm); (case c8F => k_asm); (case c8X => k_asm); (case c8T => k_asm); (case c8l => first | with_reducible assumption | k_is); (case c8k => first | exact rfl | assumption); (case c8v => k_extra "evk"); (case c8x => exact rfl); (case c8s => exact rfl); k_whole); intro h_h m_h F_h N_h; (try k_sweep))
  k_with "hdr9 exec" => ((with_reducible show PySem.wpAny _ _ (PySem.exec (PySem.Stmt.Return (some _) _) _) _ _ _); (k_dflt refine' Mine.ret_ev ?c8o ?c8F ?c8X ?c8T ?c8l ?c8k ?c8v ?_; (case c8o => rfl); (case c8F => k_asm); (case c8X => k_asm); (case c8T => k_asm); (case c8l => first | with_reducible assumption | k_is); (case c8k => first | exact rfl | assumption); (case c8v => k_extra "evk"); k_whole))
  k_with "hdr9 subscriptTail" => ((with_reducible show PySem.wpAny _ _ (PyProof.Rows.subscriptTail _ _ (PySem.Value.str _ _) (PySem.Value.int _ _)) _ _ _); (k_dflt refine' Mine.item_s ?c8x ?c8y ?c8b ?c8s ?c8t ?_; (case c8x => first | with_reducible assumption | exact Int.natCast_nonneg _ | exact Mine.nn1 | exact Mine.nn2); (case c8y => with_reducible assumption); (case c8b => first | with_reducible assumption | exact Nat.le_trans (by with_reducible assumption) (by decide)); (case c8s => with_unfolding_all rfl); (case c8t => (intro _; with_unfolding_all rfl)); k_whole); intro _)
  k_with "hdr9 subscriptTail" => ((with_reducible show PySem.wpAny _ _ (PyProof.Rows.subscriptTail _ _ (PySem.Value.ref _) (PySem.Value.int 0 _)) _ _ _); (k_dflt refine' Mine.item_0 ?c8ki ?c8kj ?_; (case c8ki => k_asm); (case c8kj => k_mem); k_whole))
  k_with "hdr9 subscriptTail" => ((with_reducible show PySem.wpAny _ _ (PyProof.Rows.subscriptTail _ _ (PySem.Value.ref _) (PySem.Value.int 1 _)) _ _ _); (k_dflt refine' Mine.item_1 ?c8ki ?c8kj ?_; (case c8ki => k_asm); (case c8kj => k_mem); k_whole))
  k_with "hdr9 subscriptTail" => ((with_reducible show PySem.wpAny _ _ (PyProof.Rows.subscriptTail _ _ (PySem.Value.ref _) (PySem.Value.int 2 _)) _ _ _); (k_dflt refine' Mine.item_2 ?c8ki ?c8kj ?_; (case c8ki => k_asm); (case c8kj => k_mem); k_whole))
  k_with "hdr9 subscriptTail" => ((with_reducible show PySem.wpAny _ _ (PyProof.Rows.subscriptTail _ _ (PySem.Value.ref _) (PySem.Value.int 3 _)) _ _ _); (k_dflt refine' Mine.item_3 ?c8ki ?c8kj ?_; (case c8ki => k_asm); (case c8kj => k_mem); k_whole))
  k_with "hdr9 subscriptTail" => ((with_reducible show PySem.wpAny _ _ (PyProof.Rows.subscriptTail _ _ (PySem.Value.ref _) (PySem.Value.int (-1) _)) _ _ _); (k_dflt refine' Mine.item_last ?c8ki ?c8kj ?_; (case c8ki => k_asm); (case c8kj => k_mem); k_whole))
  k_with "hdr9 subscriptTail" => ((with_reducible show PySem.wpAny _ _ (PyProof.Rows.subscriptTail _ (PySem.Expr.Call _ _ _ _) (PySem.Value.str _ _) (PySem.Value.int _ _)) _ _ _); (k_dflt refine' Mine.item_pick ?c8h0 ?c8h1 ?c8hx ?_; (case c8h0 => (first | lia | omega)); (case c8h1 => (first | lia | omega)); (case c8hx => (first | lia | omega))); intro c_h hc_h; (try dsimp only); (try k_fold))
  k_with "hdr9 isTrue" => ((with_reducible show PySem.wpAny _ _ (PySem.isTrue (PySem.Expr.Compare _ [_] [_] _) _ _) _ _ _); (k_dflt refine' Mine.isTc_ev ?c8o ?c8F ?c8X ?c8T ?c8l ?c8k ?c8v ?c8u ?c8b ?_; (case c8o => rfl); (case c8F => k_asm); (case c8X => k_asm); (case c8T => k_asm); (case c8l => first | with_reducible assumption | k_is); (case c8k => first | exact rfl | assumption); (case c8v => k_extra "evk"); (case c8u => k_extra "evk"); (case c8b => with_unfolding_all rfl); k_whole))
  k_with "hdr9 isTrue" => ((with_reducible show PySem.wpAny _ _ (PySem.isTrue (PySem.Expr.Compare _ [PySem.CmpOp.Lt] [_] _) _ _) _ _ _); (k_dflt refine' Mine.isT_lt ?c8o ?c8F ?c8X ?c8T ?c8l ?c8k ?c8v ?c8u ?c8b ?_ ?_; (case c8o => rfl); (case c8F => k_asm); (case c8X => k_asm); (case c8T => k_asm); (case c8l => first | with_reducible assumption | k_is); (case c8k => first | exact rfl | assumption); (case c8v => k_extra "evk"); (case c8u => k_extra "evk"); (case c8b => with_unfolding_all rfl)); all_goals (intro a_h; first | exact absurd a_h (by decide) | exact absurd (by decide) a_h | exact absurd a_h (Int.not_lt.mpr (Int.natCast_nonneg _)) | exact absurd (Int.natCast_nonneg _) a_h | skip))
  k_with "hdr9 isTrue" => ((with_reducible show PySem.wpAny _ _ (PySem.isTrue (PySem.Expr.Compare _ [PySem.CmpOp.LtE] [_] _) _ _) _ _ _); (k_dflt refine' Mine.isT_le ?c8o ?c8F ?c8X ?c8T ?c8l ?c8k ?c8v ?c8u ?c8b ?_ ?_; (case c8o => rfl); (case c8F => k_asm); (case c8X => k_asm); (case c8T => k_asm); (case c8l => first | with_reducible assumption | k_is); (case c8k => first | exact rfl | assumption); (case c8v => k_extra "evk"); (case c8u => k_extra "evk"); (case c8b => with_unfolding_all rfl)); all_goals (intro a_h; first | exact absurd a_h (by decide) | exact absurd (by decide) a_h | exact absurd a_h (Int.not_lt.mpr (Int.natCast_nonneg _)) | exact absurd (Int.natCast_nonneg _) a_h | skip))
  k_with "hdr9 isTrue" => ((with_reducible show PySem.wpAny _ _ (PySem.isTrue (PySem.Expr.Compare _ [PySem.CmpOp.Gt] [_] _) _ _) _ _ _); (k_dflt refine' Mine.isT_gt ?c8o ?c8F ?c8X ?c8T ?c8l ?c8k ?c8v ?c8u ?c8b ?_ ?_; (case c8o => rfl); (case c8F => k_asm); (case c8X => k_asm); (case c8T => k_asm); (case c8l => first | with_reducible assumption | k_is); (case c8k => first | exact rfl | assumption); (case c8v => k_extra "evk"); (case c8u => k_extra "evk"); (case c8b => with_unfolding_all rfl)); all_goals (intro a_h; first | exact absurd a_h (by decide) | exact absurd (by decide) a_h | exact absurd a_h (Int.not_lt.mpr (Int.natCast_nonneg _)) | exact absurd (Int.natCast_nonneg _) a_h | skip))
  k_with "hdr9 isTrue" => ((with_reducible show PySem.wpAny _ _ (PySem.isTrue (PySem.Expr.Compare _ [PySem.CmpOp.GtE] [_] _) _ _) _ _ _); (k_dflt refine' Mine.isT_ge ?c8o ?c8F ?c8X ?c8T ?c8l ?c8k ?c8v ?c8u ?c8b ?_ ?_; (case c8o => rfl); (case c8F => k_asm); (case c8X => k_asm); (case c8T => k_asm); (case c8l => first | with_reducible assumption | k_is); (case c8k => first | exact rfl | assumption); (case c8v => k_extra "evk"); (case c8u => k_extra "evk"); (case c8b => with_unfolding_all rfl)); all_goals (intro a_h; first | exact absurd a_h (by decide) | exact absurd (by decide) a_h | exact absurd a_h (Int.not_lt.mpr (Int.natCast_nonneg _)) | exact absurd (Int.natCast_nonneg _) a_h | skip))
  k_with "hdr9 isTrue" => ((with_reducible show PySem.wpAny _ _ (PySem.isTrue (PySem.Expr.Compare _ [PySem.CmpOp.Eq] [_] _) _ _) _ _ _); (k_dflt refine' Mine.isT_eq ?c8o ?c8F ?c8X ?c8T ?c8l ?c8k ?c8v ?c8u ?c8b ?_ ?_; (case c8o => rfl); (case c8F => k_asm); (case c8X => k_asm); (case c8T => k_asm); (case c8l => first | with_reducible assumption | k_is); (case c8k => first | exact rfl | assumption); (case c8v => k_extra "evk"); (case c8u => k_extra "evk"); (case c8b => with_unfolding_all rfl)); all_goals (intro a_h; first | exact absurd a_h (by decide) | exact absurd (by decide) a_h | exact absurd a_h (Int.not_lt.mpr (Int.natCast_nonneg _)) | exact absurd (Int.natCast_nonneg _) a_h | skip))
  k_with "hdr9 isTrue" => ((with_reducible show PySem.wpAny _ _ (PySem.isTrue (PySem.Expr.Compare _ [PySem.CmpOp.NotEq] [_] _) _ _) _ _ _); (k_dflt refine' Mine.isT_ne ?c8o ?c8F ?c8X ?c8T ?c8l ?c8k ?c8v ?c8u ?c8b ?_ ?_; (case c8o => rfl); (case c8F => k_asm); (case c8X => k_asm); (case c8T => k_asm); (case c8l => first | with_reducible assumption | k_is); (case c8k => first | exact rfl | assumption); (case c8v => k_extra "evk"); (case c8u => k_extra "evk"); (case c8b => with_unfolding_all rfl)); all_goals (intro a_h; first | exact absurd a_h (by decide) | exact absurd (by decide) a_h | exact absurd a_h (Int.not_lt.mpr (Int.natCast_nonneg _)) | exact absurd (Int.natCast_nonneg _) a_h | skip))
  k_with "hdr9 execs" => ((with_reducible show PySem.wpAny _ _ (PySem.execs (_ :: _) _) _ _ _); (try ((fail_if_success (fail_if_success (with_reducible show PySem.wpAny _ _ _ _ _ (PySem.Shared.mk _ _ _ (_ + 1) _)))); (with_reducible refine Mine.toksg ?_); intro tk_h)); (with_reducible refine Mine.opq ?_); intro Qs_h hQs_h)
  k_with "hdr9 execs" => ((with_reducible show PySem.wpAny _ _ (PySem.execs (_ :: _) _) _ _ _); (fail_if_success (fail_if_success (first | with_reducible refine Mine.isS (by with_reducible assumption) ?_ | with_reducible refine Mine.isO (by with_reducible assumption) ?_))); first | ((fail_if_success (fail_if_success (with_reducible show PySem.wpAny _ _ _ _ _ (PySem.Shared.mk _ _ _ (_ + 1) _)))); first | ((with_reducible refine Mine.execs_oneg ?_); intro tk_h) | ((with_reducible refine Mine.opqSg ?_); intro tk_h Qs_h hQs_h)) | (with_reducible refine Mine.execs_one ?_) | ((with_reducible refine Mine.opqS ?_); intro Qs_h hQs_h))
  k_with "hdr9 storeName" => ((with_reducible show PySem.wpAny _ _ (PySem.storeName _ _ _) _ _ _); (k_dflt refine' Mine.store_c ?c8F ?c8N ?c8c ?c8U ?c8d ?_ ?c8a ?c8b; (case c8a => first | exact rfl | assumption); (case c8b => exact rfl); (case c8F => k_asm); (case c8N => k_asm); (case c8c => exact rfl); (case c8U => k_updF); (case c8d => k_asm); k_whole); intro h_h o_h F_h n_h N_h d_h; (try k_sweep))
  k_with "hdr9 storeName" => ((with_reducible show PySem.wpAny _ _ (PySem.storeName _ _ _) _ _ _); (k_dflt refine' Mine.store_u ?c8F ?c8N ?_ ?c8a ?c8b; (case c8F => k_asm); (case c8N => k_asm); (case c8a => first | exact rfl | assumption); (case c8b => exact rfl); k_whole); intro h_h m_h F_h N_h; (try k_sweep))
  k_with "hdr9 binaryOp" => ((with_reducible show PySem.wpAny _ _ (PySem.binaryOp PySem.Operator.Add (PySem.Value.ref _) (PySem.Value.ref _)) _ _ _); (k_dflt refine' Mine.add_led ?c8hF ?c8hN ?c8h1 ?c8h2 ?c8hz ?_; (case c8hF => k_asm); (case c8hN => k_asm); (case c8h1 => k_mem); (case c8h2 => k_mem); (case c8hz => ((try simp only [List.length_cons, List.length_nil]); first | exact Nat.le_trans (Nat.add_le_add_right (by with_reducible assumption) _) (by decide) | (first | lia | omega)))); intro d_h h_h F_h n_h N_h l_h; (try dsimp only); (try k_fold))
  k_with "hdr9 spliced" => ((with_reducible show PySem.wpAny _ _ (PySem.spliced (PySem.backTo _ (PySem.starEach (_ :: _) _))) _ _ _); (k_dflt refine' Mine.args_ev ?c8o ?c8F ?c8X ?c8T ?c8l ?c8k ?c8v ?_; (case c8o => rfl); (case c8F => k_asm); (case c8X => k_asm); (case c8T => k_asm); (case c8l => first | with_reducible assumption | k_is); (case c8k => first | exact rfl | assumption); (case c8v => k_extra "evk"); k_whole); (try dsimp only [List.nil_append, List.cons_append]))
  k_with "hdr9 pyIter" => with_reducible refine Mine.stop_iter ?_
  k_with "hdr9 newList" => ((with_reducible show PySem.wpAny _ _ (PySem.newList _) _ _ _); (k_dflt refine' Mine.newList_L ?c8F ?c8N ?c8z ?_; (case c8F => k_asm); (case c8N => k_asm); (case c8z => first | exact Nat.le_of_ble_eq_true rfl | size_fits); k_whole); intro l_h h_h F_h n_h N_h a_h; (try k_sweep))
  k_with "hdr9 newTuple" => ((with_reducible show PySem.wpAny _ _ (PySem.newTuple _) _ _ _); (k_dflt refine' Mine.newTuple_L ?c8F ?c8N ?c8z ?_; (case c8F => k_asm); (case c8N => k_asm); (case c8z => first | exact Nat.le_of_ble_eq_true rfl | size_fits); k_whole); intro l_h h_h F_h n_h N_h a_h; (try k_sweep))
  k_with "hdr9 other" => (with_reducible refine Mine.SubQ.go (by with_reducible assumption) ?_; (try dsimp only))
  k_with "hdr9 other" => with_reducible refine Mine.SeqQ.cont (by with_reducible assumption) ?_
  k_with "hdr9 other" => with_reducible refine Mine.SeqQ.brk (by with_reducible assumption) ?_
  k_with "hdr9 other" => with_reducible refine Mine.SeqQ.ret (by with_reducible assumption) ?_
  k_with "hdr9 other" => with_reducible refine Mine.CyQ.out (by with_reducible assumption) (by with_reducible assumption) (by with_reducible assumption) ?_
  k_with "hdr9 other" => ((with_reducible refine Mine.CtQ.both (by with_reducible assumption) (by with_reducible assumption) (by with_reducible assumption) ?_ ?_) <;> intro b_h)
  k_with "hdr9 other" => with_reducible refine Mine.CtQ.no (by with_reducible assumption) (by with_reducible assumption) (by with_reducible assumption) ?_
  k_with "hdr9 other" => with_reducible refine Mine.CtQ.yes (by with_reducible assumption) ?_
  k_with "hdr9 other" => with_reducible refine Mine.SeqQ.next (by with_reducible assumption) ?_
  k_with "hdr9 other" => with_reducible refine Mine.stop_ksw ?_
  k_with "hdr9 other" => with_reducible refine Mine.stop_src ?_
  k_with "hdr9 other" => with_reducible refine Mine.stop_srcT ?_
  k_with "hdr9 other" => with_reducible refine Mine.stop_srcS ?_
  k_with "hdr9 other" => with_reducible refine Mine.stop_end ?_
  k_with "hdr9 other" => with_reducible refine Mine.stop_turn ?_
  k_with "hdr9 other" => with_reducible refine Mine.stop_turnC ?_
  k_with "hdr9 other" => with_reducible refine Mine.TurnP.ret ?_
  k_with "hdr9" => (first | ((with_reducible show PySem.wpAny _ _ _ _ _ _); first | ((with_reducible show PySem.wpAny _ _ (PySem.eval _ _) _ _ _); k_extra "hdr9 eval") | ((with_reducible show PySem.wpAny _ _ (PySem.call _ _ _) _ _ _); k_extra "hdr9 call") | ((with_reducible show PySem.wpAny _ _ (PySem.exec _ _) _ _ _); k_extra "hdr9 exec") | ((with_reducible show PySem.wpAny _ _ (PyProof.Rows.subscriptTail _ _ _ _) _ _ _); k_extra "hdr9 subscriptTail") | ((with_reducible show PySem.wpAny _ _ (PySem.isTrue _ _ _) _ _ _); k_extra "hdr9 isTrue") | ((with_reducible show PySem.wpAny _ _ (PySem.execs _ _) _ _ _); k_extra "hdr9 execs") | ((with_reducible show PySem.wpAny _ _ (PySem.storeName _ _ _) _ _ _); k_extra "hdr9 storeName") | ((with_reducible show PySem.wpAny _ _ (PySem.binaryOp _ _ _) _ _ _); k_extra "hdr9 binaryOp") | ((with_reducible show PySem.wpAny _ _ (PySem.spliced _) _ _ _); k_extra "hdr9 spliced") | ((with_reducible show PySem.wpAny _ _ (PySem.pyIter _) _ _ _); k_extra "hdr9 pyIter") | ((with_reducible show PySem.wpAny _ _ (PySem.newList _) _ _ _); k_extra "hdr9 newList") | ((with_reducible show PySem.wpAny _ _ (PySem.newTuple _) _ _ _); k_extra "hdr9 newTuple") | fail) | ((fail_if_success (with_reducible show PySem.wpAny _ _ _ _ _ _)); k_extra "hdr9 other"))
  intro w b g sd c t1 t2 t3 sm n news many tm hg hs hs' hc hc' hm hm' hoff
  unfold Fn
  intro p loose mean mg mb dp un gd cn cs a ccd cl outer A₀ base h₀ L m s Q E B F X N T hk hd hu hret
  refine wpAny_call ?_
  k_dflt cell_enter
  k_steps
  · exact hret _ _ _ _ (by k_asm) (by k_asm) ⟨_, _, _, _, _, _, rfl, (fmod_bd g hm).1, (fmod_bd g hm).2, rfl, Int.fdiv_nonneg hg (Int.le_of_lt hm), by omega, by omega⟩
  · exact hret _ _ _ _ (by k_asm) (by k_asm) ⟨_, _, _, _, _, _, rfl, (fmod_bd _ hm).1, (fmod_bd _ hm).2, rfl, hg, by omega, by omega⟩
end
section
theorem isint_spec : IsIntS Mine.hd.heap_1 := by
  intro w i t news
  unfold Fn
  intro p loose mean mg mb dp un gd cn cs a ccd cl outer A₀ base h₀ L m s Q E B F X N T hk hd hu hret
  refine wpAny_call ?_
  k_dflt (refine' Mine.code_defZ [Str.ofString "value"] ?k1 ?k2 ?k3 ?k4 ?k5 ?kA ?kF ?kK ?k6 ?k7 ?k8 ?k9 ?kB ?_ ?c2 ?c3 ?c4 ?c5; (case kA => exact rfl); (case kF => exact rfl); (case kK => assumption); (case k1 => k_asm); (case k2 => k_asm); (case k3 => k_asm); (case k4 => k_asm); (case k5 => k_asm); (case k6 => k_is); (case k7 => k_is); (case k8 => first | exact Mine.rm0 (by with_reducible assumption) | ktr_room); (case k9 => exact rfl); (case c5 => decide); (case kB => exact rfl); (case c2 => exact rfl); (case c3 => exact rfl); (case c4 => exact rfl); k_whole; intro g' L' h' tk' FG' F' N' B' X' T' e_h A_h; (try k_lift B'); (try k_fold))
  refine Mine.opq ?_
  intro Qr hQr
  have hlocs_h : Mine.Names [Str.ofString "value"] := trivial
  have hlen_h := Mine.len_of (by assumption) (by k_is)
  rename Fr _ _ _ _ => F0_h
  replace F0_h : Fr _ _ _ (Mine.lk [(Str.ofString "value", _)]) := F0_h
  k_steps
  all_goals exact hret _ _ _ _ (by k_asm) (by k_asm) ⟨rfl, rfl⟩
theorem whole_spec : WholeS Mine.hd.heap_1 := by
  intro w i t news
  k_with "call ref" => ((with_reducible show PySem.wpAny _ _ (PySem.call (PySem.Value.ref 217) _ _) _ _ _); k_dflt (refine' Mine.Fn.useV (isint_spec _ _ _ _) ?c7k1 ?c7k2 ?c7k3 ?c7k4 ?c7k5 ?c7kK ?c7kd ?c7ku ?_; (case c7k1 => k_asm); (case c7k2 => k_asm); (case c7k3 => k_asm); (case c7k4 => k_asm); (case c7k5 => k_asm); (case c7kK => first | exact rfl | assumption); (case c7kd => k_room); (case c7ku => k_units)); intro h9 tk9 le9 F9 N9; (try dsimp only); (try k_fold))
  unfold Fn
  intro p loose mean mg mb dp un gd cn cs a ccd cl outer A₀ base h₀ L m s Q E B F X N T hk hd hu hret
  refine wpAny_call ?_
  k_dflt (refine' Mine.code_defZ [Str.ofString "world", Str.ofString "value"] ?k1 ?k2 ?k3 ?k4 ?k5 ?kA ?kF ?kK ?k6 ?k7 ?k8 ?k9 ?kB ?_ ?c2 ?c3 ?c4 ?c5; (case kA => exact rfl); (case kF => exact rfl); (case kK => assumption); (case k1 => k_asm); (case k2 => k_asm); (case k3 => k_asm); (case k4 => k_asm); (case k5 => k_asm); (case k6 => k_is); (case k7 => k_is); (case k8 => first | exact Mine.rm0 (by with_reducible assumption) | ktr_room); (case k9 => exact rfl); (case c5 => decide); (case kB => exact rfl); (case c2 => exact rfl); (case c3 => exact rfl); (case c4 => exact rfl); k_whole; intro g' L' h' tk' FG' F' N' B' X' T' e_h A_h; (try k_lift B'); (try k_fold))
  refine Mine.opq ?_
  intro Qr hQr
  have hlocs_h : Mine.Names [Str.ofString "world", Str.ofString "value", Str.ofString "name"] := trivial
  have hlen_h := Mine.len_of (by assumption) (by k_is)
  rename Fr _ _ _ _ => F0_h
  replace F0_h : Fr _ _ _ (Mine.lk [(Str.ofString "value", _), (Str.ofString "world", _)]) := F0_h
  k_steps
  all_goals exact hret _ _ _ _ (by k_asm) (by k_asm) ⟨rfl, rfl⟩
theorem letters_spec : LettersS Mine.hd.heap_1 := by
  intro w a x t news hT
  obtain ⟨dx, f, t1, t2, t3, t4, t5, t6, t7, t0, k, hA, hD⟩ := hT
  unfold Fn
  intro p loose mean mg mb dp un gd cn cs a ccd cl outer A₀ base h₀ L m s Q E B F X N T hk hd hu hret
  refine wpAny_call ?_
  k_dflt (refine' Mine.code_defZ [Str.ofString "world", Str.ofString "value"] ?k1 ?k2 ?k3 ?k4 ?k5 ?kA ?kF ?kK ?k6 ?k7 ?k8 ?k9 ?kB ?_ ?c2 ?c3 ?c4 ?c5; (case kA => exact rfl); (case kF => exact rfl); (case kK => assumption); (case k1 => k_asm); (case k2 => k_asm); (case k3 => k_asm); (case k4 => k_asm); (case k5 => k_asm); (case k6 => k_is); (case k7 => k_is); (case k8 => first | exact Mine.rm0 (by with_reducible assumption) | ktr_room); (case k9 => exact rfl); (case c5 => decide); (case kB => exact rfl); (case c2 => exact rfl); (case c3 => exact rfl); (case c4 => exact rfl); k_whole; intro g' L' h' tk' FG' F' N' B' X' T' e_h A_h; (try k_lift B'); (try k_fold))
  refine Mine.opq ?_
  intro Qr hQr
  have hlocs_h : Mine.Names [Str.ofString "world", Str.ofString "value", Str.ofString "small", Str.ofString "name"] := trivial
  have hlen_h := Mine.len_of (by assumption) (by k_is)
  rename Fr _ _ _ _ => F0_h
  replace F0_h : Fr _ _ _ (Mine.lk [(Str.ofString "value", _), (Str.ofString "world", _)]) := F0_h
  k_steps
  all_goals exact hret _ _ _ _ (by k_asm) (by k_asm) ⟨rfl, rfl⟩
theorem sized_spec : SizedS Mine.hd.heap_1 := by
  intro w x t news hx
  unfold Fn
  intro p loose mean mg mb dp un gd cn cs a ccd cl outer A₀ base h₀ L m s Q E B F X N T hk hd hu hret
  refine wpAny_call ?_
  k_dflt (refine' Mine.code_defZ [Str.ofString "world", Str.ofString "text"] ?k1 ?k2 ?k3 ?k4 ?k5 ?kA ?kF ?kK ?k6 ?k7 ?k8 ?k9 ?kB ?_ ?c2 ?c3 ?c4 ?c5; (case kA => exact rfl); (case kF => exact rfl); (case kK => assumption); (case k1 => k_asm); (case k2 => k_asm); (case k3 => k_asm); (case k4 => k_asm); (case k5 => k_asm); (case k6 => k_is); (case k7 => k_is); (case k8 => first | exact Mine.rm0 (by with_reducible assumption) | ktr_room); (case k9 => exact rfl); (case c5 => decide); (case kB => exact rfl); (case c2 => exact rfl); (case c3 => exact rfl); (case c4 => exact rfl); k_whole; intro g' L' h' tk' FG' F' N' B' X' T' e_h A_h; (try k_lift B'); (try k_fold))
  refine Mine.opq ?_
  intro Qr hQr
  have hlocs_h : Mine.Names [Str.ofString "world", Str.ofString "text"] := trivial
  have hlen_h := Mine.len_of (by assumption) (by k_is)
  rename Fr _ _ _ _ => F0_h
  replace F0_h : Fr _ _ _ (Mine.lk [(Str.ofString "text", _), (Str.ofString "world", _)]) := F0_h
  k_steps
  all_goals exact hret _ _ _ _ (by k_asm) (by k_asm) ⟨rfl, rfl⟩
theorem needfree_spec : NeedFreeS Mine.hd.heap_1 := by
  intro w a x t news hT
  obtain ⟨dx, f, t1, t2, t3, t4, t5, t6, t7, t0, k, hA, hD⟩ := hT
  unfold Fn
  intro p loose mean mg mb dp un gd cn cs a ccd cl outer A₀ base h₀ L m s Q E B F X N T hk hd hu hret
  refine wpAny_call ?_
  k_dflt (refine' Mine.code_defZ [Str.ofString "world", Str.ofString "one"] ?k1 ?k2 ?k3 ?k4 ?k5 ?kA ?kF ?kK ?k6 ?k7 ?k8 ?k9 ?kB ?_ ?c2 ?c3 ?c4 ?c5; (case kA => exact rfl); (case kF => exact rfl); (case kK => assumption); (case k1 => k_asm); (case k2 => k_asm); (case k3 => k_asm); (case k4 => k_asm); (case k5 => k_asm); (case k6 => k_is); (case k7 => k_is); (case k8 => first | exact Mine.rm0 (by with_reducible assumption) | ktr_room); (case k9 => exact rfl); (case c5 => decide); (case kB => exact rfl); (case c2 => exact rfl); (case c3 => exact rfl); (case c4 => exact rfl); k_whole; intro g' L' h' tk' FG' F' N' B' X' T' e_h A_h; (try k_lift B'); (try k_fold))
  refine Mine.opq ?_
  intro Qr hQr
  have hlocs_h : Mine.Names [Str.ofString "world", Str.ofString "one"] := trivial
  have hlen_h := Mine.len_of (by assumption) (by k_is)
  rename Fr _ _ _ _ => F0_h
  replace F0_h : Fr _ _ _ (Mine.lk [(Str.ofString "one", _), (Str.ofString "world", _)]) := F0_h
  k_steps
  all_goals exact hret _ _ _ _ (by k_asm) (by k_asm) ⟨rfl, rfl⟩
theorem thing_spec : ThingS Mine.hd.heap_1 := by
  intro w x t news
  unfold Fn
  intro p loose mean mg mb dp un gd cn cs a ccd cl outer A₀ base h₀ L m s Q E B F X N T hk hd hu hret
  refine wpAny_call ?_
  k_dflt cell_enter
  k_steps
  rename News h₀ L _ (_ :: (_, instObj 62 _) :: _) => kN
  exact hret _ _ _ _ (by k_asm) (cb_drop kN fun p hp => List.mem_cons_of_mem _ hp) ⟨_, _, _, _, _, _, _, _, _, _, _, rfl, rfl, alt (by assumption), (by assumption)⟩
end
section
theorem index_spec : IndexS Mine.hd.heap_1 := by
  intro w a b ar x y t u i ti nn news hT hB hA hx hy hi hi'
  obtain ⟨dx, f, t1, t2, t3, t4, t5, t6, t7, t0, k, h1, h2⟩ := id hT
  k_with "call ref" => ((with_reducible show PySem.wpAny _ _ (PySem.call (PySem.Value.ref 318) _ _) _ _ _); k_dflt (refine' Mine.Fn.useV (letters_spec _ _ _ _ _ ?c7hT) ?c7k1 ?c7k2 ?c7k3 ?c7k4 ?c7k5 ?c7kK ?c7kd ?c7ku ?_; (case c7k1 => k_asm); (case c7k2 => k_asm); (case c7k3 => k_asm); (case c7k4 => k_asm); (case c7k5 => k_asm); (case c7kK => first | exact rfl | assumption); (case c7hT => first | assumption | exact Mine.ThingIn.mono (by assumption) (by k_extra "subw") | exact Mine.thing_in (by k_mem) (by k_mem)); (case c7kd => k_room); (case c7ku => k_units)); intro h9 tk9 le9 F9 N9; (try dsimp only); (try k_fold))
  k_with "call ref" => ((with_reducible show PySem.wpAny _ _ (PySem.call (PySem.Value.ref 332) _ _) _ _ _); k_dflt (refine' Mine.Fn.useV (whole_spec _ _ _ _) ?c7k1 ?c7k2 ?c7k3 ?c7k4 ?c7k5 ?c7kK ?c7kd ?c7ku ?_; (case c7k1 => k_asm); (case c7k2 => k_asm); (case c7k3 => k_asm); (case c7k4 => k_asm); (case c7k5 => k_asm); (case c7kK => first | exact rfl | assumption); (case c7kd => k_room); (case c7ku => k_units)); intro h9 tk9 le9 F9 N9; (try dsimp only); (try k_fold))
  unfold Fn
  intro p loose mean mg mb dp un gd cn cs a ccd cl outer A₀ base h₀ L m s Q E B F X N T hk hd hu hret
  refine wpAny_call ?_
  k_dflt (refine' Mine.code_defZ [Str.ofString "world", Str.ofString "one", Str.ofString "args"] ?k1 ?k2 ?k3 ?k4 ?k5 ?kA ?kF ?kK ?k6 ?k7 ?k8 ?k9 ?kB ?_ ?c2 ?c3 ?c4 ?c5; (case kA => exact rfl); (case kF => exact rfl); (case kK => assumption); (case k1 => k_asm); (case k2 => k_asm); (case k3 => k_asm); (case k4 => k_asm); (case k5 => k_asm); (case k6 => k_is); (case k7 => k_is); (case k8 => first | exact Mine.rm0 (by with_reducible assumption) | ktr_room); (case k9 => exact rfl); (case c5 => decide); (case kB => exact rfl); (case c2 => exact rfl); (case c3 => exact rfl); (case c4 => exact rfl); k_whole; intro g' L' h' tk' FG' F' N' B' X' T' e_h A_h; (try k_lift B'); (try k_fold))
  refine Mine.opq ?_
  intro Qr hQr
  have hlocs_h : Mine.Names [Str.ofString "world", Str.ofString "one", Str.ofString "args", Str.ofString "start", Str.ofString "at"] := trivial
  have hlen_h := Mine.len_of (by assumption) (by k_is)
  rename Fr _ _ _ _ => F0_h
  replace F0_h : Fr _ _ _ (Mine.lk [(Str.ofString "args", _), (Str.ofString "one", _), (Str.ofString "world", _)]) := F0_h
  k_steps
  all_goals (refine hret _ _ _ _ (by k_asm) (by k_asm) ⟨?_, rfl⟩)
  all_goals (first | rw [idxA_1 (by omega) (by omega)] | rw [idxA_2 (by omega) (by omega)] | rw [idxA_3 (by omega) (by omega)] | rw [idxA_4 (by omega) (by omega)])
  all_goals (first | exact ex_pos (by omega) | exact ex_neg (by omega))
theorem index1_spec : Index1S Mine.hd.heap_1 := by
  intro w a b ar x y t u nn news hT hB hA hx hy
  obtain ⟨dx, f, t1, t2, t3, t4, t5, t6, t7, t0, k, h1, h2⟩ := id hT
  k_with "call ref" => ((with_reducible show PySem.wpAny _ _ (PySem.call (PySem.Value.ref 318) _ _) _ _ _); k_dflt (refine' Mine.Fn.useV (letters_spec _ _ _ _ _ ?c7hT) ?c7k1 ?c7k2 ?c7k3 ?c7k4 ?c7k5 ?c7kK ?c7kd ?c7ku ?_; (case c7k1 => k_asm); (case c7k2 => k_asm); (case c7k3 => k_asm); (case c7k4 => k_asm); (case c7k5 => k_asm); (case c7kK => first | exact rfl | assumption); (case c7hT => first | assumption | exact Mine.ThingIn.mono (by assumption) (by k_extra "subw") | exact Mine.thing_in (by k_mem) (by k_mem)); (case c7kd => k_room); (case c7ku => k_units)); intro h9 tk9 le9 F9 N9; (try dsimp only); (try k_fold))
  k_with "call ref" => ((with_reducible show PySem.wpAny _ _ (PySem.call (PySem.Value.ref 332) _ _) _ _ _); k_dflt (refine' Mine.Fn.useV (whole_spec _ _ _ _) ?c7k1 ?c7k2 ?c7k3 ?c7k4 ?c7k5 ?c7kK ?c7kd ?c7ku ?_; (case c7k1 => k_asm); (case c7k2 => k_asm); (case c7k3 => k_asm); (case c7k4 => k_asm); (case c7k5 => k_asm); (case c7kK => first | exact rfl | assumption); (case c7kd => k_room); (case c7ku => k_units)); intro h9 tk9 le9 F9 N9; (try dsimp only); (try k_fold))
  unfold Fn
  intro p loose mean mg mb dp un gd cn cs a ccd cl outer A₀ base h₀ L m s Q E B F X N T hk hd hu hret
  refine wpAny_call ?_
  k_dflt (refine' Mine.code_defZ [Str.ofString "world", Str.ofString "one", Str.ofString "args"] ?k1 ?k2 ?k3 ?k4 ?k5 ?kA ?kF ?kK ?k6 ?k7 ?k8 ?k9 ?kB ?_ ?c2 ?c3 ?c4 ?c5; (case kA => exact rfl); (case kF => exact rfl); (case kK => assumption); (case k1 => k_asm); (case k2 => k_asm); (case k3 => k_asm); (case k4 => k_asm); (case k5 => k_asm); (case k6 => k_is); (case k7 => k_is); (case k8 => first | exact Mine.rm0 (by with_reducible assumption) | ktr_room); (case k9 => exact rfl); (case c5 => decide); (case kB => exact rfl); (case c2 => exact rfl); (case c3 => exact rfl); (case c4 => exact rfl); k_whole; intro g' L' h' tk' FG' F' N' B' X' T' e_h A_h; (try k_lift B'); (try k_fold))
  refine Mine.opq ?_
  intro Qr hQr
  have hlocs_h : Mine.Names [Str.ofString "world", Str.ofString "one", Str.ofString "args", Str.ofString "start", Str.ofString "at"] := trivial
  have hlen_h := Mine.len_of (by assumption) (by k_is)
  rename Fr _ _ _ _ => F0_h
  replace F0_h : Fr _ _ _ (Mine.lk [(Str.ofString "args", _), (Str.ofString "one", _), (Str.ofString "world", _)]) := F0_h
  k_steps
  all_goals (refine hret _ _ _ _ (by k_asm) (by k_asm) ⟨?_, rfl⟩)
  all_goals (rw [idxA_1 (by omega) (by omega)]; first | exact ex_pos (by omega) | exact ex_neg (by omega))
theorem rindex_spec : RindexS Mine.hd.heap_1 := by
  intro w a b ar x y t u i ti nn news hT hB hA hx hy hi hi'
  obtain ⟨dx, f, t1, t2, t3, t4, t5, t6, t7, t0, k, h1, h2⟩ := id hT
  k_with "call ref" => ((with_reducible show PySem.wpAny _ _ (PySem.call (PySem.Value.ref 318) _ _) _ _ _); k_dflt (refine' Mine.Fn.useV (letters_spec _ _ _ _ _ ?c7hT) ?c7k1 ?c7k2 ?c7k3 ?c7k4 ?c7k5 ?c7kK ?c7kd ?c7ku ?_; (case c7k1 => k_asm); (case c7k2 => k_asm); (case c7k3 => k_asm); (case c7k4 => k_asm); (case c7k5 => k_asm); (case c7kK => first | exact rfl | assumption); (case c7hT => first | assumption | exact Mine.ThingIn.mono (by assumption) (by k_extra "subw") | exact Mine.thing_in (by k_mem) (by k_mem)); (case c7kd => k_room); (case c7ku => k_units)); intro h9 tk9 le9 F9 N9; (try dsimp only); (try k_fold))
  k_with "call ref" => ((with_reducible show PySem.wpAny _ _ (PySem.call (PySem.Value.ref 332) _ _) _ _ _); k_dflt (refine' Mine.Fn.useV (whole_spec _ _ _ _) ?c7k1 ?c7k2 ?c7k3 ?c7k4 ?c7k5 ?c7kK ?c7kd ?c7ku ?_; (case c7k1 => k_asm); (case c7k2 => k_asm); (case c7k3 => k_asm); (case c7k4 => k_asm); (case c7k5 => k_asm); (case c7kK => first | exact rfl | assumption); (case c7kd => k_room); (case c7ku => k_units)); intro h9 tk9 le9 F9 N9; (try dsimp only); (try k_fold))
  unfold Fn
  intro p loose mean mg mb dp un gd cn cs a ccd cl outer A₀ base h₀ L m s Q E B F X N T hk hd hu hret
  refine wpAny_call ?_
  k_dflt (refine' Mine.code_defZ [Str.ofString "world", Str.ofString "one", Str.ofString "args"] ?k1 ?k2 ?k3 ?k4 ?k5 ?kA ?kF ?kK ?k6 ?k7 ?k8 ?k9 ?kB ?_ ?c2 ?c3 ?c4 ?c5; (case kA => exact rfl); (case kF => exact rfl); (case kK => assumption); (case k1 => k_asm); (case k2 => k_asm); (case k3 => k_asm); (case k4 => k_asm); (case k5 => k_asm); (case k6 => k_is); (case k7 => k_is); (case k8 => first | exact Mine.rm0 (by with_reducible assumption) | ktr_room); (case k9 => exact rfl); (case c5 => decide); (case kB => exact rfl); (case c2 => exact rfl); (case c3 => exact rfl); (case c4 => exact rfl); k_whole; intro g' L' h' tk' FG' F' N' B' X' T' e_h A_h; (try k_lift B'); (try k_fold))
  refine Mine.opq ?_
  intro Qr hQr
  have hlocs_h : Mine.Names [Str.ofString "world", Str.ofString "one", Str.ofString "args", Str.ofString "text", Str.ofString "start", Str.ofString "at"] := trivial
  have hlen_h := Mine.len_of (by assumption) (by k_is)
  rename Fr _ _ _ _ => F0_h
  replace F0_h : Fr _ _ _ (Mine.lk [(Str.ofString "args", _), (Str.ofString "one", _), (Str.ofString "world", _)]) := F0_h
  k_steps
  all_goals (refine hret _ _ _ _ (by k_asm) (cb_drop (by k_asm) fun p hp => by first | exact hp | exact List.mem_cons_of_mem _ hp) ⟨?_, rfl⟩)
  all_goals (first | rw [ridxA_1 (by omega)] | rw [ridxA_2 (by omega) (by omega)] | rw [ridxA_3 (by omega) (by omega)])
  all_goals (first | exact ex_pos (by omega) | exact ex_neg (by omega))
theorem rindex1_spec : Rindex1S Mine.hd.heap_1 := by
  intro w a b ar x y t u nn news hT hB hA hx hy
  obtain ⟨dx, f, t1, t2, t3, t4, t5, t6, t7, t0, k, h1, h2⟩ := id hT
  k_with "call ref" => ((with_reducible show PySem.wpAny _ _ (PySem.call (PySem.Value.ref 318) _ _) _ _ _); k_dflt (refine' Mine.Fn.useV (letters_spec _ _ _ _ _ ?c7hT) ?c7k1 ?c7k2 ?c7k3 ?c7k4 ?c7k5 ?c7kK ?c7kd ?c7ku ?_; (case c7k1 => k_asm); (case c7k2 => k_asm); (case c7k3 => k_asm); (case c7k4 => k_asm); (case c7k5 => k_asm); (case c7kK => first | exact rfl | assumption); (case c7hT => first | assumption | exact Mine.ThingIn.mono (by assumption) (by k_extra "subw") | exact Mine.thing_in (by k_mem) (by k_mem)); (case c7kd => k_room); (case c7ku => k_units)); intro h9 tk9 le9 F9 N9; (try dsimp only); (try k_fold))
  k_with "call ref" => ((with_reducible show PySem.wpAny _ _ (PySem.call (PySem.Value.ref 332) _ _) _ _ _); k_dflt (refine' Mine.Fn.useV (whole_spec _ _ _ _) ?c7k1 ?c7k2 ?c7k3 ?c7k4 ?c7k5 ?c7kK ?c7kd ?c7ku ?_; (case c7k1 => k_asm); (case c7k2 => k_asm); (case c7k3 => k_asm); (case c7k4 => k_asm); (case c7k5 => k_asm); (case c7kK => first | exact rfl | assumption); (case c7kd => k_room); (case c7ku => k_units)); intro h9 tk9 le9 F9 N9; (try dsimp only); (try k_fold))
  unfold Fn
  intro p loose mean mg mb dp un gd cn cs a ccd cl outer A₀ base h₀ L m s Q E B F X N T hk hd hu hret
  refine wpAny_call ?_
  k_dflt (refine' Mine.code_defZ [Str.ofString "world", Str.ofString "one", Str.ofString "args"] ?k1 ?k2 ?k3 ?k4 ?k5 ?kA ?kF ?kK ?k6 ?k7 ?k8 ?k9 ?kB ?_ ?c2 ?c3 ?c4 ?c5; (case kA => exact rfl); (case kF => exact rfl); (case kK => assumption); (case k1 => k_asm); (case k2 => k_asm); (case k3 => k_asm); (case k4 => k_asm); (case k5 => k_asm); (case k6 => k_is); (case k7 => k_is); (case k8 => first | exact Mine.rm0 (by with_reducible assumption) | ktr_room); (case k9 => exact rfl); (case c5 => decide); (case kB => exact rfl); (case c2 => exact rfl); (case c3 => exact rfl); (case c4 => exact rfl); k_whole; intro g' L' h' tk' FG' F' N' B' X' T' e_h A_h; (try k_lift B'); (try k_fold))
  refine Mine.opq ?_
  intro Qr hQr
  have hlocs_h : Mine.Names [Str.ofString "world", Str.ofString "one", Str.ofString "args", Str.ofString "text", Str.ofString "start", Str.ofString "at"] := trivial
  have hlen_h := Mine.len_of (by assumption) (by k_is)
  rename Fr _ _ _ _ => F0_h
  replace F0_h : Fr _ _ _ (Mine.lk [(Str.ofString "args", _), (Str.ofString "one", _), (Str.ofString "world", _)]) := F0_h
  k_steps
  all_goals (refine hret _ _ _ _ (by k_asm) (cb_drop (by k_asm) fun p hp => by first | exact hp | exact List.mem_cons_of_mem _ hp) ⟨?_, rfl⟩)
  all_goals (rw [ridxA_1 (by omega)]; first | exact ex_pos (by omega) | exact ex_neg (by omega))
end
section
theorem insert_spec : InsertS Mine.hd.heap_1 := by
  intro w a b dx f ar x y t1 t2 t3 t4 t5 t6 t7 t0 t u i ti nn news hB hA hx hy hi hi' hne hoff
  k_with "call ref" => ((with_reducible show PySem.wpAny _ _ (PySem.call (PySem.Value.ref 318) _ _) _ _ _); k_dflt (refine' Mine.Fn.useV (letters_spec _ _ _ _ _ ?c7hT) ?c7k1 ?c7k2 ?c7k3 ?c7k4 ?c7k5 ?c7kK ?c7kd ?c7ku ?_; (case c7k1 => k_asm); (case c7k2 => k_asm); (case c7k3 => k_asm); (case c7k4 => k_asm); (case c7k5 => k_asm); (case c7kK => first | exact rfl | assumption); (case c7hT => first | assumption | exact Mine.ThingIn.mono (by assumption) (by k_extra "subw") | exact Mine.thing_in (by k_mem) (by k_mem)); (case c7kd => k_room); (case c7ku => k_units)); intro h9 tk9 le9 F9 N9; (try dsimp only); (try k_fold))
  k_with "call ref" => ((with_reducible show PySem.wpAny _ _ (PySem.call (PySem.Value.ref 332) _ _) _ _ _); k_dflt (refine' Mine.Fn.useV (whole_spec _ _ _ _) ?c7k1 ?c7k2 ?c7k3 ?c7k4 ?c7k5 ?c7kK ?c7kd ?c7ku ?_; (case c7k1 => k_asm); (case c7k2 => k_asm); (case c7k3 => k_asm); (case c7k4 => k_asm); (case c7k5 => k_asm); (case c7kK => first | exact rfl | assumption); (case c7kd => k_room); (case c7ku => k_units)); intro h9 tk9 le9 F9 N9; (try dsimp only); (try k_fold))
  k_with "call ref" => ((with_reducible show PySem.wpAny _ _ (PySem.call (PySem.Value.ref 339) _ _) _ _ _); k_dflt (refine' Mine.Fn.useV (needfree_spec _ _ _ _ _ ?c7hT) ?c7k1 ?c7k2 ?c7k3 ?c7k4 ?c7k5 ?c7kK ?c7kd ?c7ku ?_; (case c7k1 => k_asm); (case c7k2 => k_asm); (case c7k3 => k_asm); (case c7k4 => k_asm); (case c7k5 => k_asm); (case c7kK => first | exact rfl | assumption); (case c7hT => first | assumption | exact Mine.ThingIn.mono (by assumption) (by k_extra "subw") | exact Mine.thing_in (by k_mem) (by k_mem)); (case c7kd => k_room); (case c7ku => k_units)); intro h9 tk9 le9 F9 N9; (try dsimp only); (try k_fold))
  k_with "call ref" => ((with_reducible show PySem.wpAny _ _ (PySem.call (PySem.Value.ref 325) _ _) _ _ _); k_dflt (refine' Mine.Fn.useV (sized_spec _ _ _ _ ?c7hx) ?c7k1 ?c7k2 ?c7k3 ?c7k4 ?c7k5 ?c7kK ?c7kd ?c7ku ?_; (case c7k1 => k_asm); (case c7k2 => k_asm); (case c7k3 => k_asm); (case c7k4 => k_asm); (case c7k5 => k_asm); (case c7kK => first | exact rfl | assumption); (case c7hx => first | with_reducible assumption | exact Nat.le_trans (by with_reducible assumption) (by decide) | (first | lia | omega)); (case c7kd => k_room); (case c7ku => k_units)); intro h9 tk9 le9 F9 N9; (try dsimp only); (try k_fold))
  unfold Fn
  intro p loose mean mg mb dp un gd cn cs a ccd cl outer A₀ base h₀ L m s Q E B F X N T hk hd hu hret
  refine wpAny_call ?_
  k_dflt (refine' Mine.code_defZ [Str.ofString "world", Str.ofString "one", Str.ofString "args"] ?k1 ?k2 ?k3 ?k4 ?k5 ?kA ?kF ?kK ?k6 ?k7 ?k8 ?k9 ?kB ?_ ?c2 ?c3 ?c4 ?c5; (case kA => exact rfl); (case kF => exact rfl); (case kK => assumption); (case k1 => k_asm); (case k2 => k_asm); (case k3 => k_asm); (case k4 => k_asm); (case k5 => k_asm); (case k6 => k_is); (case k7 => k_is); (case k8 => first | exact Mine.rm0 (by with_reducible assumption) | ktr_room); (case k9 => exact rfl); (case c5 => decide); (case kB => exact rfl); (case c2 => exact rfl); (case c3 => exact rfl); (case c4 => exact rfl); k_whole; intro g' L' h' tk' FG' F' N' B' X' T' e_h A_h; (try k_lift B'); (try k_fold))
  refine Mine.opq ?_
  intro Qr hQr
  have hlocs_h : Mine.Names [Str.ofString "world", Str.ofString "one", Str.ofString "args", Str.ofString "place", Str.ofString "text", Str.ofString "at"] := trivial
  have hlen_h := Mine.len_of (by assumption) (by k_is)
  rename Fr _ _ _ _ => F0_h
  replace F0_h : Fr _ _ _ (Mine.lk [(Str.ofString "args", _), (Str.ofString "one", _), (Str.ofString "world", _)]) := F0_h
  k_steps
  all_goals (refine hret _ _ _ _ (by k_asm) (cb_drop (by k_asm) fun p hp => List.mem_cons_of_mem _ hp) ⟨rfl, ?_⟩)
  all_goals (first | rw [insT_1 (by omega)] | rw [insT_2 (by omega)])
  all_goals exact ⟨_, rfl⟩
end
section
theorem spread_spec : SpreadS Mine.hd.heap_1 := by
  intro w x t meant news hS hx hm hc5
  unfold Fn
  intro p loose mean mg mb dp un gd cn cs a ccd cl outer A₀ base h₀ L m s Q E B F X N T hk hd hu hret
  refine wpAny_call ?_
  k_dflt (refine' Mine.code_defZ [Str.ofString "world", Str.ofString "told"] ?k1 ?k2 ?k3 ?k4 ?k5 ?kA ?kF ?kK ?k6 ?k7 ?k8 ?k9 ?kB ?_ ?c2 ?c3 ?c4 ?c5; (case kA => exact rfl); (case kF => exact rfl); (case kK => assumption); (case k1 => k_asm); (case k2 => k_asm); (case k3 => k_asm); (case k4 => k_asm); (case k5 => k_asm); (case k6 => k_is); (case k7 => k_is); (case k8 => first | exact Mine.rm0 (by with_reducible assumption) | ktr_room); (case k9 => exact rfl); (case c5 => decide); (case kB => exact rfl); (case c2 => exact rfl); (case c3 => exact rfl); (case c4 => exact rfl); k_whole; intro g' L' h' tk' FG' F' N' B' X' T' e_h A_h; (try k_lift B'); (try k_fold))
  refine Mine.opq ?_
  intro Qr hQr
  have hlocs_h : Mine.Names [Str.ofString "world", Str.ofString "told", Str.ofString "found", Str.ofString "at", Str.ofString "low", Str.ofString "high"] := trivial
  have hlen_h := Mine.len_of (by assumption) (by k_is)
  rename Fr _ _ _ _ => F0_h
  replace F0_h : Fr _ _ _ (Mine.lk [(Str.ofString "told", _), (Str.ofString "world", _)]) := F0_h
  k_steps
  refine Stop.go ?_
  rename Fr _ _ _ (fun _ => _) => F1
  rename News _ _ _ (_ :: (_, listOf #[] 0) :: _) => N1
  have N2 := cb_drop N1 (fun p hp => List.mem_cons_of_mem _ hp)
  clear N1
  k_dflt refine' ksw_while (σ := SprC) (fun c => (_, listOf c.vs.toArray c.cap) :: news) (fun c => [(Str.ofString "at", Value.int c.at_ c.t)]) (fun _ => True) [Str.ofString "low", Str.ofString "high"] (SprP x meant) (fun c => x.length - c.at_) ⟨0, _, [], 0⟩ F1 N2 trivial ?hk ?hp ?_
  case hk => kst_all
  case hp => exact ⟨[], meant, .nil, hS, rfl, Nat.zero_le _⟩
  clear F1 N2
  intro c u h9 tk9 _ hP F9 N9
  refine Mine.hideG ?_; intro gP_h hG_h; obtain ⟨at_, ta, vs, cap⟩ := c; refine hG_h ?_; (try clear hG_h)
  dsimp only at F9 N9 ⊢
  have hvl := hP.len hm
  dsimp only at hvl
  k_steps
  · refine Stop.go ?_
    dsimp only [KswPost]
    rename News _ _ _ _ => N0
    rename Fr _ _ _ _ => F0
    refine ksw_end ⟨at_ + 2, _, vs ++ [.str (Txt.item x (at_+1)) _], cap+1⟩ F0 N0 (by intro p hp; exact hp) trivial (by kst_all) (by ksw_same) (hP.a (by assumption) (by assumption) (by assumption)) (by first | exact fall1 (by assumption) | exact fall2 (by assumption) | exact fall3 (by assumption) | (dsimp only; (first | lia | omega)))
  · refine Stop.go ?_
    dsimp only [KswPost]
    rename News _ _ _ _ => N0
    rename Fr _ _ _ _ => F0
    refine ksw_end ⟨at_ + 1, _, vs ++ [.str (Txt.item x at_) _], cap+1⟩ F0 N0 (by intro p hp; exact hp) trivial (by kst_all) (by ksw_same) (hP.c (by assumption) (fun q => by first | exact absurd q.2 (by assumption) | exact Bool.noConfusion (q.1.symm.trans (show _ = false by assumption))) (fun q => by first | exact absurd q.2 (by assumption) | exact absurd q.2 (by (first | lia | omega)) | exact Bool.noConfusion (q.1.symm.trans (show _ = false by assumption)))) (by first | exact fall1 (by assumption) | exact fall2 (by assumption) | exact fall3 (by assumption) | (dsimp only; (first | lia | omega)))
  · refine Stop.go ?_
    dsimp only [KswPost]
    rename News _ _ _ _ => N0
    rename Fr _ _ _ _ => F0
    refine ksw_end ⟨at_ + 1, _, vs ++ [.str (Txt.item x at_) _], cap+1⟩ F0 N0 (by intro p hp; exact hp) trivial (by kst_all) (by ksw_same) (hP.c (by assumption) (fun q => by first | exact absurd q.2 (by assumption) | exact Bool.noConfusion (q.1.symm.trans (show _ = false by assumption))) (fun q => by first | exact absurd q.2 (by assumption) | exact absurd q.2 (by (first | lia | omega)) | exact Bool.noConfusion (q.1.symm.trans (show _ = false by assumption)))) (by first | exact fall1 (by assumption) | exact fall2 (by assumption) | exact fall3 (by assumption) | (dsimp only; (first | lia | omega)))
  · refine Mine.hideG ?_; intro gP_h hG_h; obtain ⟨a9, b9, e1, _, e2, l1, l2, _⟩ := hP.b (by assumption) (fun q => Bool.noConfusion (q.1.symm.trans (show _ = false by assumption))) (by assumption) (by assumption); refine hG_h ?_; (try clear hG_h)
    exfalso; (first | lia | omega)
  · refine Mine.hideG ?_; intro gP_h hG_h; obtain ⟨a9, b9, e1, _, e2, l1, l2, _⟩ := hP.b (by assumption) (fun q => Bool.noConfusion (q.1.symm.trans (show _ = false by assumption))) (by assumption) (by assumption); refine hG_h ?_; (try clear hG_h)
    exfalso; (first | lia | omega)
  · refine Mine.hideG ?_; intro gP_h hG_h; obtain ⟨_, _, rfl, hb9, rfl, l1, l2, l3, hP9⟩ := hP.b (by assumption) (fun q => Bool.noConfusion (q.1.symm.trans (show _ = false by assumption))) (by assumption) (by assumption); refine hG_h ?_; (try clear hG_h)
    have hb5 := hc5 _ hb9
    refine Stop.go ?_
    generalize hlo : (Txt.item x (at_ : Int)).cps.getD 0 0 = lo at *
    generalize hhi : (Txt.item x ((at_ : Int) + 2)).cps.getD 0 0 = hh at *
    k_dflt (refine LCg.ListComp_U (F₀ := by k_asm) (by rfl) (by decide) (by rfl) (by decide) (by rfl) ?_)
    k_steps
    refine Stop.go ?_
    refine LCg.CompSrc.range (n := hh + 1 - lo) (by rfl) (by k_asm) (by k_asm) (by assumption) (range_ok (by (first | lia | omega)) (by (first | lia | omega)) (by (first | lia | omega)) (by (first | lia | omega))) (by rw [rangeSize_nat]; (first | lia | omega)) (by rw [PySem.sizeLine_eq]; (first | lia | omega)) ?_
    intro g'
    refine restU_fix (fun i ys => Chs ys ((rangeL lo hh).take i)) .nil ?_ ?_
    · intro i ys v I oI C oC D m₂ h tk E' hi hJ hP hC hx F N off ne
      refine Mine.hideG ?_; intro gP_h hG_h; obtain ⟨t9, rfl⟩ := hP; refine hG_h ?_; (try clear hG_h)
      k_steps
      refine Stop.go ?_
      refine LCg.CompEnd.intro (by k_asm) (by k_asm) _ (by intro p hp; exact hp) off trivial ⟨rfl, ?_⟩
      have e9 := rangeL_get hi
      (try rw [hlo])
      refine hJ.step (c := lo + i) e9
    · intro ys hys
      rw [List.take_of_length_le (by rw [rangeL_len]; (first | lia | omega))] at hys
      intro D8 h8 tk8 F8 N8 o8
      have hl9 := hys.length
      rw [rangeL_len] at hl9
      k_steps
      have N88 := cb_drop (news := (D8, listOf ys.toArray ys.length) :: (_, listOf vs.toArray cap) :: news) N8 (by intro p hp; rcases List.mem_cons.mp hp with rfl | hp; exact .head _; rcases List.mem_cons.mp hp with rfl | hp; k_mem; repeat (first | exact hp | apply List.mem_cons_of_mem))
      refine extend_2 F8 N88 ?_ (by k_all) (by have hl8 := hys.length; rw [rangeL_len] at hl8; have hz8 := PySem.sizeLine_eq; clear F8 N88 N8; (first | lia | omega)) ?_
      · exact fun e => o8.2.1 e.symm
      intro h7 n7 F7 N7
      clear N8 N88 F8
      k_steps
      refine Stop.go ?_
      dsimp only [KswPost]
      rename Fr _ _ _ _ => F0
      refine ksw_end ⟨at_ + 3, _, vs ++ ys, n7⟩ F0 (by k_asm) (by intro p hp; exact .tail _ hp) trivial (by kst_all) (by ksw_same) (hP9 _ _ _ hys) (by first | exact fall1 (by assumption) | exact fall2 (by assumption) | exact fall3 (by assumption) | (dsimp only; (first | lia | omega)))
  · refine Stop.go ?_
    dsimp only [KswPost]
    rename News _ _ _ _ => N0
    rename Fr _ _ _ _ => F0
    refine ksw_end ⟨at_ + 1, _, vs ++ [.str (Txt.item x at_) _], cap+1⟩ F0 N0 (by intro p hp; exact hp) trivial (by kst_all) (by ksw_same) (hP.c (by assumption) (fun q => by first | exact absurd q.2 (by assumption) | exact Bool.noConfusion (q.1.symm.trans (show _ = false by assumption))) (fun q => by first | exact absurd q.2 (by assumption) | exact absurd q.2 (by (first | lia | omega)) | exact Bool.noConfusion (q.1.symm.trans (show _ = false by assumption)))) (by first | exact fall1 (by assumption) | exact fall2 (by assumption) | exact fall3 (by assumption) | (dsimp only; (first | lia | omega)))
  · refine Stop.go ?_
    dsimp only [KswPost]
    rename News _ _ _ _ => N0
    rename Fr _ _ _ _ => F0
    refine ksw_end ⟨at_ + 1, _, vs ++ [.str (Txt.item x at_) _], cap+1⟩ F0 N0 (by intro p hp; exact hp) trivial (by kst_all) (by ksw_same) (hP.c (by assumption) (fun q => by first | exact absurd q.2 (by assumption) | exact Bool.noConfusion (q.1.symm.trans (show _ = false by assumption))) (fun q => by first | exact absurd q.2 (by assumption) | exact absurd q.2 (by (first | lia | omega)) | exact Bool.noConfusion (q.1.symm.trans (show _ = false by assumption)))) (by first | exact fall1 (by assumption) | exact fall2 (by assumption) | exact fall3 (by assumption) | (dsimp only; (first | lia | omega)))
  · exact hret _ _ _ _ (by k_asm) (by k_asm) ⟨_, _, _, rfl, rfl, hP.fin (by assumption), by first | assumption | exact alt (by assumption)⟩
end
section
theorem isin_spec : IsInS Mine.hd.heap_1 := by
  intro w A rs c t news hS
  obtain ⟨vs, k, hA, hR⟩ := hS
  unfold Fn
  intro p loose mean mg mb dp un gd cn cs a ccd cl outer A₀ base h₀ L m s Q E B F X N T hk hd hu hret
  refine wpAny_call ?_
  k_dflt (refine' Mine.code_defZ [Str.ofString "sets", Str.ofString "letter"] ?k1 ?k2 ?k3 ?k4 ?k5 ?kA ?kF ?kK ?k6 ?k7 ?k8 ?k9 ?kB ?_ ?c2 ?c3 ?c4 ?c5; (case kA => exact rfl); (case kF => exact rfl); (case kK => assumption); (case k1 => k_asm); (case k2 => k_asm); (case k3 => k_asm); (case k4 => k_asm); (case k5 => k_asm); (case k6 => k_is); (case k7 => k_is); (case k8 => first | exact Mine.rm0 (by with_reducible assumption) | ktr_room); (case k9 => exact rfl); (case c5 => decide); (case kB => exact rfl); (case c2 => exact rfl); (case c3 => exact rfl); (case c4 => exact rfl); k_whole; intro g' L' h' tk' FG' F' N' B' X' T' e_h A_h; (try k_lift B'); (try k_fold))
  refine Mine.opq ?_
  intro Qr hQr
  have hlocs_h : Mine.Names [Str.ofString "sets", Str.ofString "letter", Str.ofString "turned", Str.ofString "known"] := trivial
  have hlen_h := Mine.len_of (by assumption) (by k_is)
  rename Fr _ _ _ _ => F0_h
  replace F0_h : Fr _ _ _ (Mine.lk [(Str.ofString "letter", _), (Str.ofString "sets", _)]) := F0_h
  k_steps
  refine Stop.go ?_
  rename Fr _ _ _ (fun _ => _) => F1
  k_dflt refine' For_turns F1 ?_
  k_steps
  refine Stop.go ?_
  k_dflt refine' for_tupList (σ := Unit) (fun _ => []) (Str.ofString "turned") [Str.ofString "known"] (fun i _ nx => nx = news ∧ ∀ r ∈ rs.take i, (r.2.contains c == r.1) = false) () (by rfl) hR.refs hA (by k_asm) (by k_asm) (List.forall_mem_nil _) ⟨rfl, by intro r hr; cases hr⟩ ?turn ?done
  case turn =>
    rintro i v ⟨⟩ nx u h9 tk9 own hv hnx ⟨rfl, hJ⟩ hoff F9 N9
    refine Mine.hideG ?_; intro gP_h hG_h; obtain ⟨T, Kk, ws, kk, b, m, rfl, hr, hT, hK, hC⟩ := hR.get hv; refine hG_h ?_; (try clear hG_h)
    have hT9 := News.isTup N9 (List.mem_append_left _ hT)
    have hK9 := News.isList N9 (List.mem_append_left _ hK)
    k_steps
    refine in_list_strs (News.isList (by k_asm) (List.mem_append_left _ hK)) hC ?_
    rw [any_ch]
    k_steps
    · exact hret _ _ _ _ (by k_asm) (cb_drop (by k_asm) fun p hp => List.mem_append_left _ hp) ⟨by rw [isIn_false hr (by assumption)], rfl⟩
    · refine Stop.go ?_
      rename Fr _ _ _ _ => F0
      rename News _ _ _ _ => N0
      refine TurnP.next (c := ()) nx F0 N0 (by intro p hp; exact List.mem_append_left _ hp) (by intro p hp; exact List.mem_append_right _ hp) hoff (by kst_all) (by kst_same) ⟨hnx, rfl, ?_⟩
      rw [List.take_add_one, hr]
      intro r hr9
      rcases List.mem_append.mp hr9 with hr9 | hr9
      · exact hJ r hr9
      · rw [List.mem_singleton.mp hr9]; assumption
  case done =>
    rintro ⟨⟩ nx u h9 tk9 ⟨rfl, hJ⟩ F9 N9
    k_steps
    rw [List.take_of_length_le (by rw [hR.length]; exact Nat.le_refl _)] at hJ
    exact hret _ _ _ _ (by k_asm) (by k_asm) ⟨by rw [isIn_true hJ], rfl⟩
end
section
theorem setsof_spec : SetsOfS Mine.hd.heap_1 := by
  intro w ar vs nn rs news hA hR hl10
  k_with "call ref" => ((with_reducible show PySem.wpAny _ _ (PySem.call (PySem.Value.ref 318) _ _) _ _ _); k_dflt (refine' Mine.Fn.useV (letters_spec _ _ _ _ _ ?c7hT) ?c7k1 ?c7k2 ?c7k3 ?c7k4 ?c7k5 ?c7kK ?c7kd ?c7ku ?_; (case c7k1 => k_asm); (case c7k2 => k_asm); (case c7k3 => k_asm); (case c7k4 => k_asm); (case c7k5 => k_asm); (case c7kK => first | exact rfl | assumption); (case c7hT => first | assumption | exact Mine.ThingIn.mono (by assumption) (by k_extra "subw") | exact Mine.thing_in (by k_mem) (by k_mem)); (case c7kd => k_room); (case c7ku => k_units)); intro h9 tk9 le9 F9 N9; (try dsimp only); (try k_fold))
  k_with "call ref" => ((with_reducible show PySem.wpAny _ _ (PySem.call (PySem.Value.ref 372) _ _) _ _ _); k_dflt (refine' Mine.Fn.useL (spread_spec _ _ _ _ _ ?c7hS ?c7hl ?c7hm ?c7hc) ?c7k1 ?c7k2 ?c7k3 ?c7k4 ?c7k5 ?c7kK ?c7kd ?c7ku ?_; (case c7k1 => k_asm); (case c7k2 => k_asm); (case c7k3 => k_asm); (case c7k4 => k_asm); (case c7k5 => k_asm); (case c7hS => with_reducible assumption); (case c7hl => with_reducible assumption); (case c7hm => with_reducible assumption); (case c7hc => with_reducible assumption); (case c7kK => first | exact rfl | assumption); (case c7kd => k_room); (case c7ku => k_units)); intro a9 vs9 k9 h9 tk9 le9 F9 n9 N9 hC9 l9; have hl9 := Mine.Chs.length hC9; (try k_lt l9); (try dsimp only); (try k_fold))
  unfold Fn
  intro p loose mean mg mb dp un gd cn cs a ccd cl outer A₀ base h₀ L m s Q E B F X N T hk hd hu hret
  refine wpAny_call ?_
  k_dflt (refine' Mine.code_defCL [Str.ofString "world", Str.ofString "args"] [(Str.ofString "args", _)] (fun L' => [(L' + 1, some (.none))]) ?k1 ?k2 ?k3 ?k4 ?k5 ?kA ?kF ?kK ?k6 ?k7 ?k8 ?k9 ?kB ?kD ?kE ?kG ?_ ?c2 ?c3 ?c4; (case kA => exact rfl); (case kF => exact rfl); (case kK => assumption); (case k1 => k_asm); (case k2 => k_asm); (case k3 => k_asm); (case k4 => k_asm); (case k5 => k_asm); (case k6 => k_is); (case k7 => k_is); (case k8 => first | exact Mine.rm0 (by with_reducible assumption) | ktr_room); (case k9 => exact rfl); (case kB => exact rfl); (case kD => decide +kernel); (case kE => exact rfl); (case kG => exact fun _ => rfl); (case c2 => exact rfl); (case c3 => exact rfl); (case c4 => exact rfl); k_whole; intro g' L' h' tk' FG' F' B' X' T' l1 o' d1' N' e_h A_h; (try k_lift B'); (try k_fold))
  refine Mine.opq ?_
  intro Qr hQr
  have hlocs_h : Mine.Names [Str.ofString "args", Str.ofString "found", Str.ofString "told", Str.ofString "turned"] := trivial
  have hlen_h := Mine.len_of (by assumption) (by k_is)
  rename Fr _ _ _ _ => F0_h
  replace F0_h : Fr _ _ _ (Mine.lk [(Str.ofString "args", _)]) := F0_h
  k_steps
  refine Stop.go ?_
  rename Fr _ _ _ (fun _ => _) => F1
  k_dflt refine' For_invVF F1 (by rfl) (by rfl) ?_
  k_steps
  refine Stop.go ?_
  k_dflt (refine LCg.ListComp_U (F₀ := by k_asm) (by with_unfolding_all rfl) (by decide) (by rfl) (by decide) (by rfl) ?_)
  k_steps
  refine Stop.go ?_
  have hlen := hR.length
  refine LCg.CompSrc.ledger (by rfl) (by k_asm) (by k_asm) (List.mem_cons_of_mem _ (List.mem_cons_of_mem _ hA)) (by rw [List.size_toArray, PySem.sizeLine_eq]; omega) ?_
  intro g9
  refine restU_fix (fun i ys => Tolds ys (rs.take i)) .nil ?_ ?_
  · intro i ys v I oI C oC D m₂ h tk E' hi hJ hP hC hx F N off ne
    refine Mine.hideG ?_; intro gP_h hG_h; obtain ⟨a1, x1, t1, r1, rfl, hr, hT, hX⟩ := hR.get (i := i) (v := v) (by simpa using hP); refine hG_h ?_; (try clear hG_h)
    k_steps
    refine Stop.go ?_
    refine LCg.CompEnd.intro (by k_asm) (by k_asm) _ (by intro p hp; exact hp) off (.inr ⟨_, List.mem_cons_of_mem _ (List.mem_cons_of_mem _ hA), rfl, _, rfl⟩) ⟨rfl, ?_⟩
    rw [List.take_add_one, hr]
    exact hJ.snoc hX
  · intro ys hys
    rw [List.take_of_length_le (by rw [List.size_toArray, hlen]; exact Nat.le_refl _)] at hys
    intro D8 h8 tk8 F8 N8 o8
    k_steps
    refine Stop.go ?_
    have N88 := cb_drop (news := (_, listOf #[] 0) :: (D8, LCg.lst ys) :: (_, _) :: news) N8 (by intro p hp; rcases List.mem_cons.mp hp with rfl | hp; exact .tail _ (.head _); rcases List.mem_cons.mp hp with rfl | hp; exact .head _; exact .tail _ (.tail _ hp))
    clear N8
    refine for_list (nn := ys.length) (fun _ => []) [Str.ofString "turned"] (SofJ _ _ rs) ⟨[], 0, []⟩ (by rfl) (.tail _ (.head _)) (by k_asm) N88 (List.forall_mem_nil _) (SofJ.start ?off) ?turn ?done
    case off =>
      intro p hp
      rcases List.mem_cons.mp hp with rfl | hp
      · exact fun e => o8.1 e.symm
      · rcases List.mem_cons.mp hp with rfl | hp
        · k_ne
        · exact ne_of_allLt (by have := (by assumption : _ ∧ AllLt _ news).2; exact this) (Nat.le_refl _) p hp
    case turn =>
      rintro i v ⟨fs, cap, ex⟩ nx u h7 tk7 own hv hnx ⟨rfl, hRows, hoffF, hFr⟩ hoff F7 N7
      refine Mine.hideG ?_; intro gP_h hG_h; obtain ⟨x, t, ⟨b, mm⟩, rfl, hr, hX⟩ := hys.get hv; refine hG_h ?_; (try clear hG_h)
      obtain ⟨x1, x2, x3, hb | hb⟩ := telx_cases hX
      · refine Mine.hideG ?_; intro gP_h hG_h; obtain ⟨rfl, y1, y2, y3⟩ := hb; refine hG_h ?_; (try clear hG_h)
        have y4 : (Txt.slice x (some 1) none).length ≤ 1000 := by
          have := slice_sn x (i := 1) (by decide)
          rw [← L_len, this, List.length_drop, L_len]; omega
        dsimp only at F7 N7 hoffF hRows
        simp only [List.cons_append] at N7
        have hT : ∀ p ∈ news ++ ex ++ own, p.1 ≠ _ := fun p hp => (List.mem_append.mp hp).elim (fun hp => hoffF p (.tail _ (.tail _ hp))) (fun hp => hoff p hp _ (List.mem_map.mpr ⟨_, .head _, rfl⟩))
        have d1 := o8.1
        dsimp only at d1
        have hfl : fs.length ≤ 10 := by rw [hRows.length, List.length_take]; omega
        k_steps
        refine Stop.go ?_
        rename Fr _ _ _ _ => F0
        rename News _ _ _ _ => N0
        have hA1 := (by assumption : _ < _ ∧ _ < _ ∧ _ < _ ∧ _ < _ ∧ AllLt _ (news ++ ex ++ own))
        refine TurnP.next _ _ F0 N0 ?_ ?_ ?_ (List.forall_mem_nil _) (by kst_same) ⟨?_, SofJ.step (cap := cap) (k := k9) hRows hoffF hr hC9 l9.1 hA1.2.1 (b' := Txt.item x 0 == Str.ofString "^") (by assumption) hFr (h3 := ?_) (h4 := ?_)⟩
        · exact by k_extra "subw"
        · exact by k_extra "subw"
        · refine ownoff_new hoff fun q hq => ?_
          have hown : ∀ p ∈ own, p.1 < _ := fun p hp => lt_of_allLt l9.2.2.2 p (List.mem_append_right _ hp)
          have hown2 : ∀ p ∈ own, p.1 < _ := fun p hp => lt_of_allLt hA1.2.2.2.2 p (List.mem_append_right _ hp)
          simp only [List.mem_cons, List.mem_append, List.cons_append] at hq
          simp only [List.map_cons, List.map_append, List.mem_cons, List.mem_append, List.cons_append]
          rcases hq with h | h | h | h | h | h | h
          · left; left; rw [h]
          · left; right; left; rw [h]
          · left; right; right; left; rw [h]
          · left; right; right; right; left; exact List.mem_map.mpr ⟨_, h, rfl⟩
          · right; rw [h]; exact hown2
          · right; rw [h]; exact hown
          · left; right; right; right; right; exact List.mem_map.mpr ⟨_, h, rfl⟩
        · exact .tail _ (.head _)
        · exact lt_of_allLt ⟨l9.2.1, l9.2.2.1, allLt_left (allLt_left l9.2.2.2)⟩
        · exact lt_of_allLt ⟨hA1.2.2.1, hA1.2.2.2.1, allLt_left (allLt_left hA1.2.2.2.2)⟩
      · refine Mine.hideG ?_; intro gP_h hG_h; obtain ⟨rfl, y3, hy⟩ := hb; refine hG_h ?_; (try clear hG_h)
        dsimp only at F7 N7 hoffF hRows
        simp only [List.cons_append] at N7
        have hT : ∀ p ∈ news ++ ex ++ own, p.1 ≠ _ := fun p hp => (List.mem_append.mp hp).elim (fun hp => hoffF p (.tail _ (.tail _ hp))) (fun hp => hoff p hp _ (List.mem_map.mpr ⟨_, .head _, rfl⟩))
        have d1 := o8.1
        dsimp only at d1
        have hfl : fs.length ≤ 10 := by rw [hRows.length, List.length_take]; omega
        rcases hy with y1 | ⟨y1, y2⟩
        · k_steps
          refine Stop.go ?_
          rename Fr _ _ _ _ => F0
          rename News _ _ _ _ => N0
          have hA1 := (by assumption : _ < _ ∧ _ < _ ∧ _ < _ ∧ _ < _ ∧ AllLt _ (news ++ ex ++ own))
          refine TurnP.next _ _ F0 N0 ?_ ?_ ?_ (List.forall_mem_nil _) (by kst_same) ⟨?_, SofJ.step (cap := cap) (k := k9) hRows hoffF hr hC9 l9.1 hA1.2.1 (b' := decide ((1 : Int) < x.length)) (decide_eq_false y1) hFr (h3 := ?_) (h4 := ?_)⟩
          · exact by k_extra "subw"
          · exact by k_extra "subw"
          · refine ownoff_new hoff fun q hq => ?_
            have hown : ∀ p ∈ own, p.1 < _ := fun p hp => lt_of_allLt l9.2.2.2 p (List.mem_append_right _ hp)
            have hown2 : ∀ p ∈ own, p.1 < _ := fun p hp => lt_of_allLt hA1.2.2.2.2 p (List.mem_append_right _ hp)
            simp only [List.mem_cons, List.mem_append, List.cons_append] at hq
            simp only [List.map_cons, List.map_append, List.mem_cons, List.mem_append, List.cons_append]
            rcases hq with h | h | h | h | h | h | h
            · left; left; rw [h]
            · left; right; left; rw [h]
            · left; right; right; left; rw [h]
            · left; right; right; right; left; exact List.mem_map.mpr ⟨_, h, rfl⟩
            · right; rw [h]; exact hown2
            · right; rw [h]; exact hown
            · left; right; right; right; right; exact List.mem_map.mpr ⟨_, h, rfl⟩
          · exact .tail _ (.head _)
          · exact lt_of_allLt ⟨l9.2.1, l9.2.2.1, allLt_left (allLt_left l9.2.2.2)⟩
          · exact lt_of_allLt ⟨hA1.2.2.1, hA1.2.2.2.1, allLt_left (allLt_left hA1.2.2.2.2)⟩
        · k_steps
          refine Stop.go ?_
          rename Fr _ _ _ _ => F0
          rename News _ _ _ _ => N0
          have hA1 := (by assumption : _ < _ ∧ _ < _ ∧ _ < _ ∧ _ < _ ∧ AllLt _ (news ++ ex ++ own))
          refine TurnP.next _ _ F0 N0 ?_ ?_ ?_ (List.forall_mem_nil _) (by kst_same) ⟨?_, SofJ.step (cap := cap) (k := k9) hRows hoffF hr hC9 l9.1 hA1.2.1 (b' := Txt.item x 0 == Str.ofString "^") (by assumption) hFr (h3 := ?_) (h4 := ?_)⟩
          · exact by k_extra "subw"
          · exact by k_extra "subw"
          · refine ownoff_new hoff fun q hq => ?_
            have hown : ∀ p ∈ own, p.1 < _ := fun p hp => lt_of_allLt l9.2.2.2 p (List.mem_append_right _ hp)
            have hown2 : ∀ p ∈ own, p.1 < _ := fun p hp => lt_of_allLt hA1.2.2.2.2 p (List.mem_append_right _ hp)
            simp only [List.mem_cons, List.mem_append, List.cons_append] at hq
            simp only [List.map_cons, List.map_append, List.mem_cons, List.mem_append, List.cons_append]
            rcases hq with h | h | h | h | h | h | h
            · left; left; rw [h]
            · left; right; left; rw [h]
            · left; right; right; left; rw [h]
            · left; right; right; right; left; exact List.mem_map.mpr ⟨_, h, rfl⟩
            · right; rw [h]; exact hown2
            · right; rw [h]; exact hown
            · left; right; right; right; right; exact List.mem_map.mpr ⟨_, h, rfl⟩
          · exact .tail _ (.head _)
          · exact lt_of_allLt ⟨l9.2.1, l9.2.2.1, allLt_left (allLt_left l9.2.2.2)⟩
          · exact lt_of_allLt ⟨hA1.2.2.1, hA1.2.2.2.1, allLt_left (allLt_left hA1.2.2.2.2)⟩
    case done =>
      rintro ⟨fs, cap, ex⟩ nx u h7 tk7 ⟨rfl, hRows, hoffF, hFr⟩ F7 N7
      k_steps
      rw [List.take_of_length_le (by rw [hys.length]; exact Nat.le_refl _)] at hRows
      rename News _ _ _ _ => N0
      refine hret _ (news ++ (_, listOf fs.toArray cap) :: ex) _ _ (by k_asm) (cb_drop N0 ?_) ⟨_, _, rfl, rfl, ⟨fs, cap, .head _, hRows.mono fun p hp => .tail _ hp⟩, ?_⟩
      rotate_left
      · intro p hp q hq
        rcases List.mem_cons.mp hp with rfl | hp
        · exact lt_of_allLt (by have := (by assumption : _ ∧ AllLt _ news).2; exact this) q hq
        · exact hFr p hp q (.tail _ (.tail _ hq))
      exact by k_extra "subw"
end
section
theorem count_spec : CountS Mine.hd.heap_1 := by
  intro w a ar x t vs nn rs news hT hx hA hR hl10
  obtain ⟨dx, f, t1, t2, t3, t4, t5, t6, t7, t0, k, h1, h2⟩ := id hT
  k_with "call ref" => ((with_reducible show PySem.wpAny _ _ (PySem.call (PySem.Value.ref 377) _ _) _ _ _); k_dflt (refine' Mine.Fn.useX (setsof_spec _ _ _ _ _ _ ?c7hm ?c7hR ?c7hl) ?c7k1 ?c7k2 ?c7k3 ?c7k4 ?c7k5 ?c7kK ?c7kd ?c7ku ?_; (case c7k1 => k_asm); (case c7k2 => k_asm); (case c7k3 => k_asm); (case c7k4 => k_asm); (case c7k5 => k_asm); (case c7hR => exact Mine.Args.mono (by assumption) (by k_extra "subw")); (case c7hm => first | (with_reducible exact List.mem_cons_self) | (repeat (first | with_reducible assumption | apply List.mem_cons_of_mem | apply List.mem_append_left))); (case c7hl => with_reducible assumption); (case c7kK => first | exact rfl | assumption); (case c7kd => k_room); (case c7ku => k_units)); intro a9 ex9 h9 tk9 le9 F9 n9 N9 hS9 hF9; (try dsimp only); (try k_fold))
  k_with "call ref" => ((with_reducible show PySem.wpAny _ _ (PySem.call (PySem.Value.ref 384) _ _) _ _ _); k_dflt (refine' Mine.Fn.useV (isin_spec _ _ _ _ _ _ ?c7hS) ?c7k1 ?c7k2 ?c7k3 ?c7k4 ?c7k5 ?c7kK ?c7kd ?c7ku ?_; (case c7k1 => k_asm); (case c7k2 => k_asm); (case c7k3 => k_asm); (case c7k4 => k_asm); (case c7k5 => k_asm); (case c7hS => exact Mine.SetsIn.mono (by assumption) (by k_extra "subw")); (case c7kK => first | exact rfl | assumption); (case c7kd => k_room); (case c7ku => k_units)); intro h9 tk9 le9 F9 N9; (try dsimp only); (try k_fold))
  unfold Fn
  intro p loose mean mg mb dp un gd cn cs a ccd cl outer A₀ base h₀ L m s Q E B F X N T hk hd hu hret
  refine wpAny_call ?_
  k_dflt (refine' Mine.code_defCL [Str.ofString "world", Str.ofString "one", Str.ofString "args"] [(Str.ofString "args", _), (Str.ofString "one", _), (Str.ofString "world", _)] (fun L' => [(L' + 1, none)]) ?k1 ?k2 ?k3 ?k4 ?k5 ?kA ?kF ?kK ?k6 ?k7 ?k8 ?k9 ?kB ?kD ?kE ?kG ?_ ?c2 ?c3 ?c4; (case kA => exact rfl); (case kF => exact rfl); (case kK => assumption); (case k1 => k_asm); (case k2 => k_asm); (case k3 => k_asm); (case k4 => k_asm); (case k5 => k_asm); (case k6 => k_is); (case k7 => k_is); (case k8 => first | exact Mine.rm0 (by with_reducible assumption) | ktr_room); (case k9 => exact rfl); (case kB => exact rfl); (case kD => decide +kernel); (case kE => exact rfl); (case kG => exact fun _ => rfl); (case c2 => exact rfl); (case c3 => exact rfl); (case c4 => exact rfl); k_whole; intro g' L' h' tk' FG' F' B' X' T' l1 o' d1' N' e_h A_h; (try k_lift B'); (try k_fold))
  refine Mine.opq ?_
  intro Qr hQr
  have hlocs_h : Mine.Names [Str.ofString "world", Str.ofString "one", Str.ofString "args"] := trivial
  have hlen_h := Mine.len_of (by assumption) (by k_is)
  rename Fr _ _ _ _ => F0_h
  replace F0_h : Fr _ _ _ (Mine.lk [(Str.ofString "args", _), (Str.ofString "one", _), (Str.ofString "world", _)]) := F0_h
  k_steps
  refine Stop.go ?_
  k_dflt (refine Mine.ListComp_strT (_F₀ := by k_asm) (by rfl) (by with_unfolding_all rfl) (by decide) (by rfl) (by decide) (by rfl) ?_)
  k_steps
  refine Stop.go ?_
  refine SrcS.introC (s := s) (by k_asm) (by k_asm) (by rw [PySem.sizeLine_eq]; have := hx; unfold Str.length at this; (first | lia | omega)) ?_
  intro g9 tk9
  refine restT_q (s := s) (fun i ys => ys.length = (x.cps.toList.take i).countP (isIn rs)) rfl trivial ?_ ?_
  · rintro i ys _ I oI C oC D m₂ h tk Qb Qy E' hi hJ ⟨c, u, hc, rfl⟩ hC hx9 F nl N off ne hQy ce hQb
    k_steps
    · refine Stop.go ?_
      rw [List.take_add_one, show x.cps.toList[i]? = some c by simpa using hc, List.countP_append, ← hJ, List.length_append]
      simp only [Option.toList, List.countP_cons, List.countP_nil, List.length_cons, List.length_nil]
      rw [if_pos (by assumption)]
    · refine Stop.go ?_
      rw [List.take_add_one, show x.cps.toList[i]? = some c by simpa using hc, List.countP_append, ← hJ]
      simp only [Option.toList, List.countP_cons, List.countP_nil]
      rw [if_neg (by simp only [Bool.not_eq_true]; assumption)]
      rfl
  · intro ys hys
    rw [List.take_of_length_le (by simp)] at hys
    have hle : ys.length ≤ 1000 := by
      rw [hys]; exact Nat.le_trans List.countP_le_length (by have := hx; unfold Str.length at this; simpa using this)
    intro D8 h8 tk8 F8 N8 o8
    k_steps
    refine hret _ _ _ _ (by k_asm) (cb_drop (news := news) (by k_asm) ?_) ⟨⟨_, congrArg (fun n : Nat => Value.int (n : Int) _) hys⟩, rfl⟩
    exact by k_extra "subw"
theorem deleted_spec : DeletedS Mine.hd.heap_1 := by
  intro w ar x t vs nn rs news hx hA hR hl10
  k_with "call ref" => ((with_reducible show PySem.wpAny _ _ (PySem.call (PySem.Value.ref 377) _ _) _ _ _); k_dflt (refine' Mine.Fn.useX (setsof_spec _ _ _ _ _ _ ?c7hm ?c7hR ?c7hl) ?c7k1 ?c7k2 ?c7k3 ?c7k4 ?c7k5 ?c7kK ?c7kd ?c7ku ?_; (case c7k1 => k_asm); (case c7k2 => k_asm); (case c7k3 => k_asm); (case c7k4 => k_asm); (case c7k5 => k_asm); (case c7hR => exact Mine.Args.mono (by assumption) (by k_extra "subw")); (case c7hm => first | (with_reducible exact List.mem_cons_self) | (repeat (first | with_reducible assumption | apply List.mem_cons_of_mem | apply List.mem_append_left))); (case c7hl => with_reducible assumption); (case c7kK => first | exact rfl | assumption); (case c7kd => k_room); (case c7ku => k_units)); intro a9 ex9 h9 tk9 le9 F9 n9 N9 hS9 hF9; (try dsimp only); (try k_fold))
  k_with "call ref" => ((with_reducible show PySem.wpAny _ _ (PySem.call (PySem.Value.ref 384) _ _) _ _ _); k_dflt (refine' Mine.Fn.useV (isin_spec _ _ _ _ _ _ ?c7hS) ?c7k1 ?c7k2 ?c7k3 ?c7k4 ?c7k5 ?c7kK ?c7kd ?c7ku ?_; (case c7k1 => k_asm); (case c7k2 => k_asm); (case c7k3 => k_asm); (case c7k4 => k_asm); (case c7k5 => k_asm); (case c7hS => exact Mine.SetsIn.mono (by assumption) (by k_extra "subw")); (case c7kK => first | exact rfl | assumption); (case c7kd => k_room); (case c7ku => k_units)); intro h9 tk9 le9 F9 N9; (try dsimp only); (try k_fold))
  unfold Fn
  intro p loose mean mg mb dp un gd cn cs a ccd cl outer A₀ base h₀ L m s Q E B F X N T hk hd hu hret
  refine wpAny_call ?_
  k_dflt (refine' Mine.code_defCL [Str.ofString "world", Str.ofString "text", Str.ofString "args"] [(Str.ofString "args", _), (Str.ofString "text", _), (Str.ofString "world", _)] (fun L' => [(L' + 1, none)]) ?k1 ?k2 ?k3 ?k4 ?k5 ?kA ?kF ?kK ?k6 ?k7 ?k8 ?k9 ?kB ?kD ?kE ?kG ?_ ?c2 ?c3 ?c4; (case kA => exact rfl); (case kF => exact rfl); (case kK => assumption); (case k1 => k_asm); (case k2 => k_asm); (case k3 => k_asm); (case k4 => k_asm); (case k5 => k_asm); (case k6 => k_is); (case k7 => k_is); (case k8 => first | exact Mine.rm0 (by with_reducible assumption) | ktr_room); (case k9 => exact rfl); (case kB => exact rfl); (case kD => decide +kernel); (case kE => exact rfl); (case kG => exact fun _ => rfl); (case c2 => exact rfl); (case c3 => exact rfl); (case c4 => exact rfl); k_whole; intro g' L' h' tk' FG' F' B' X' T' l1 o' d1' N' e_h A_h; (try k_lift B'); (try k_fold))
  refine Mine.opq ?_
  intro Qr hQr
  have hlocs_h : Mine.Names [Str.ofString "world", Str.ofString "text", Str.ofString "args"] := trivial
  have hlen_h := Mine.len_of (by assumption) (by k_is)
  rename Fr _ _ _ _ => F0_h
  replace F0_h : Fr _ _ _ (Mine.lk [(Str.ofString "args", _), (Str.ofString "text", _), (Str.ofString "world", _)]) := F0_h
  k_steps
  refine Stop.go ?_
  k_dflt (refine Mine.ListComp_strT (_F₀ := by k_asm) (by rfl) (by with_unfolding_all rfl) (by decide) (by rfl) (by decide) (by rfl) ?_)
  k_steps
  refine Stop.go ?_
  refine SrcS.introC (s := s) (by k_asm) (by k_asm) (by rw [PySem.sizeLine_eq]; have := hx; unfold Str.length at this; (first | lia | omega)) ?_
  intro g9 tk9
  refine restT_q (s := s) (fun i ys => Chs ys ((x.cps.toList.take i).filter fun c => !isIn rs c)) .nil trivial ?_ ?_
  · rintro i ys _ I oI C oC D m₂ h tk Qb Qy E' hi hJ ⟨c, u, hc, rfl⟩ hC hx9 F nl N off ne hQy ce hQb
    k_steps
    · refine Stop.go ?_
      rw [List.take_add_one, show x.cps.toList[i]? = some c by simpa using hc, List.filter_append]
      simp only [Option.toList, List.filter_cons, List.filter_nil]
      rw [if_pos (by assumption)]
      exact hJ.snoc
    · refine Stop.go ?_
      rw [List.take_add_one, show x.cps.toList[i]? = some c by simpa using hc, List.filter_append]
      simp only [Option.toList, List.filter_cons, List.filter_nil]
      rw [if_neg (by simp only [Bool.not_eq_true]; assumption), List.append_nil]
      exact hJ
  · intro ys hys
    rw [List.take_of_length_le (by simp)] at hys
    have hle : (x.cps.toList.filter fun c => !isIn rs c).length ≤ 100000 := Nat.le_trans (List.length_filter_le _ _) (by have := hx; unfold Str.length at this; simp only [Array.length_toList]; (first | lia | omega))
    intro D8 h8 tk8 F8 N8 o8
    k_steps
    exact hret _ _ _ _ (by k_asm) (cb_drop (news := news) (by k_asm) (by k_extra "subw")) ⟨⟨_, rfl⟩, rfl⟩
end
section
theorem squeezed_spec : SqueezedS Mine.hd.heap_1 := by
  intro w ar x t vs nn rs news hx hA hR hl10
  k_with "call ref" => ((with_reducible show PySem.wpAny _ _ (PySem.call (PySem.Value.ref 377) _ _) _ _ _); k_dflt (refine' Mine.Fn.useX (setsof_spec _ _ _ _ _ _ ?c7hm ?c7hR ?c7hl) ?c7k1 ?c7k2 ?c7k3 ?c7k4 ?c7k5 ?c7kK ?c7kd ?c7ku ?_; (case c7k1 => k_asm); (case c7k2 => k_asm); (case c7k3 => k_asm); (case c7k4 => k_asm); (case c7k5 => k_asm); (case c7hR => exact Mine.Args.mono (by assumption) (by k_extra "subw")); (case c7hm => first | (with_reducible exact List.mem_cons_self) | (repeat (first | with_reducible assumption | apply List.mem_cons_of_mem | apply List.mem_append_left))); (case c7hl => with_reducible assumption); (case c7kK => first | exact rfl | assumption); (case c7kd => k_room); (case c7ku => k_units)); intro a9 ex9 h9 tk9 le9 F9 n9 N9 hS9 hF9; (try dsimp only); (try k_fold))
  k_with "call ref" => ((with_reducible show PySem.wpAny _ _ (PySem.call (PySem.Value.ref 384) _ _) _ _ _); k_dflt (refine' Mine.Fn.useV (isin_spec _ _ _ _ _ _ ?c7hS) ?c7k1 ?c7k2 ?c7k3 ?c7k4 ?c7k5 ?c7kK ?c7kd ?c7ku ?_; (case c7k1 => k_asm); (case c7k2 => k_asm); (case c7k3 => k_asm); (case c7k4 => k_asm); (case c7k5 => k_asm); (case c7hS => exact Mine.SetsIn.mono (by assumption) (by k_extra "subw")); (case c7kK => first | exact rfl | assumption); (case c7kd => k_room); (case c7ku => k_units)); intro h9 tk9 le9 F9 N9; (try dsimp only); (try k_fold))
  unfold Fn
  intro p loose mean mg mb dp un gd cn cs a ccd cl outer A₀ base h₀ L m s Q E B F X N T hk hd hu hret
  refine wpAny_call ?_
  k_dflt (refine' Mine.code_defZ [Str.ofString "world", Str.ofString "text", Str.ofString "args"] ?k1 ?k2 ?k3 ?k4 ?k5 ?kA ?kF ?kK ?k6 ?k7 ?k8 ?k9 ?kB ?_ ?c2 ?c3 ?c4 ?c5; (case kA => exact rfl); (case kF => exact rfl); (case kK => assumption); (case k1 => k_asm); (case k2 => k_asm); (case k3 => k_asm); (case k4 => k_asm); (case k5 => k_asm); (case k6 => k_is); (case k7 => k_is); (case k8 => first | exact Mine.rm0 (by with_reducible assumption) | ktr_room); (case k9 => exact rfl); (case c5 => decide); (case kB => exact rfl); (case c2 => exact rfl); (case c3 => exact rfl); (case c4 => exact rfl); k_whole; intro g' L' h' tk' FG' F' N' B' X' T' e_h A_h; (try k_lift B'); (try k_fold))
  refine Mine.opq ?_
  intro Qr hQr
  have hlocs_h : Mine.Names [Str.ofString "world", Str.ofString "text", Str.ofString "args", Str.ofString "sets", Str.ofString "found", Str.ofString "letter"] := trivial
  have hlen_h := Mine.len_of (by assumption) (by k_is)
  rename Fr _ _ _ _ => F0_h
  replace F0_h : Fr _ _ _ (Mine.lk [(Str.ofString "args", _), (Str.ofString "text", _), (Str.ofString "world", _)]) := F0_h
  k_steps
  refine Stop.go ?_
  rename Fr _ _ _ (fun _ => _) => F1
  k_dflt refine' For_invVF F1 (by rfl) (by rfl) ?_
  k_steps
  refine Stop.go ?_
  rename News _ _ _ _ => N1
  have N2 := cb_drop (news := (_, listOf #[] 0) :: (news ++ ex9)) N1 (fun p hp => .tail _ hp)
  clear N1
  refine for_str (fun _ => []) [] (AccJ _ (news ++ ex9) (fun i vs => Chs vs (sqz rs (x.cps.toList.take i)))) ⟨[], 0⟩ (by rfl) (by k_asm) N2 (List.forall_mem_nil _) ⟨rfl, .nil⟩ ?turn ?done
  case turn =>
    rintro i v ⟨fs, cap⟩ nx u h7 tk7 own hi ⟨c, u9, hc, rfl⟩ ⟨rfl, hJ⟩ hoff F7 N7
    dsimp only at F7 N7 hJ hoff
    simp only [List.cons_append] at N7
    have hown : ∀ p ∈ own, p.1 ≠ _ := fun p hp => hoff p hp _ (List.mem_map.mpr ⟨_, .head _, rfl⟩)
    have hc' : x.cps.toList[i]? = some c := by simpa using hc
    have hsz := sqz_len rs (x.cps.toList.take i)
    have hsz' : (x.cps.toList.take i).length ≤ 1000 := by rw [List.length_take]; unfold Str.length at hx; simp only [Array.length_toList]; (first | lia | omega)
    have hfl := hJ.length
    rcases hJ.last with ⟨rfl, e⟩ | ⟨vs', d, u8, cs', rfl, e, hC'⟩
    · k_steps
      · refine Stop.go ?_
        rename Fr _ _ _ _ => F0
        rename News _ _ _ _ => N0
        refine TurnP.next ⟨[] ++ [Value.str (ch c) u9], cap + 1⟩ _ F0 N0 ?_ ?_ ?_ (List.forall_mem_nil _) (by kst_same) ⟨rfl, ?_⟩
        · exact by k_extra "subw"
        · exact by k_extra "subw"
        · exact hoff
        · dsimp only
          rw [sqz_app hc' (by rw [e]; rintro ⟨q, _⟩; cases q)]
          exact (show Chs ([] ++ _) _ from hJ.snoc)
    · have hl1 : (vs' ++ [Value.str (ch d) u8]).length = vs'.length + 1 := by simp
      have hgl : (sqz rs (List.take i x.cps.toList)).getLast? = some d := by rw [e]; simp
      k_steps
      · exfalso; (first | lia | omega)
      · have hb : (d != c) = true := ch_bne.symm.trans (by assumption)
        refine Stop.go ?_
        rename Fr _ _ _ _ => F0
        rename News _ _ _ _ => N0
        refine TurnP.next ⟨vs' ++ [Value.str (ch d) u8] ++ [Value.str (ch c) u9], cap + 1⟩ _ F0 N0 ?_ ?_ ?_ (List.forall_mem_nil _) (by kst_same) ⟨rfl, ?_⟩
        · exact by k_extra "subw"
        · exact by k_extra "subw"
        · exact hoff
        · dsimp only
          rw [sqz_app hc' (by rw [hgl]; rintro ⟨q, _⟩; exact ne_of_bne hb (Option.some.inj q))]
          exact hJ.snoc
      · have hb : (d != c) = false := ch_bne.symm.trans (by assumption)
        refine Stop.go ?_
        rename Fr _ _ _ _ => F0
        rename News _ _ _ _ => N0
        refine TurnP.next ⟨vs' ++ [Value.str (ch d) u8], cap⟩ _ F0 N0 ?_ ?_ ?_ (List.forall_mem_nil _) (by kst_same) ⟨rfl, ?_⟩
        · exact by k_extra "subw"
        · exact by k_extra "subw"
        · exact hoff
        · dsimp only
          rw [sqz_stay hc' (by rw [hgl, eq_of_bne hb]) (by assumption)]
          exact hJ
      · refine Stop.go ?_
        rename Fr _ _ _ _ => F0
        rename News _ _ _ _ => N0
        refine TurnP.next ⟨vs' ++ [Value.str (ch d) u8] ++ [Value.str (ch c) u9], cap + 1⟩ _ F0 N0 ?_ ?_ ?_ (List.forall_mem_nil _) (by kst_same) ⟨rfl, ?_⟩
        · exact by k_extra "subw"
        · exact by k_extra "subw"
        · exact hoff
        · dsimp only
          rw [sqz_app hc' (by rintro ⟨_, q⟩; exact absurd (q.symm.trans (show isIn rs c = false by assumption)) (by decide))]
          exact hJ.snoc
  case done =>
    rintro ⟨fs, cap⟩ nx u h7 tk7 ⟨rfl, hJ⟩ F7 N7
    rw [List.take_of_length_le (by simp)] at hJ
    dsimp only at hJ F7 N7
    have hle : (sqz rs x.cps.toList).length ≤ 100000 := Nat.le_trans (sqz_len _ _) (by have := hx; unfold Str.length at this; simp only [Array.length_toList]; (first | lia | omega))
    k_steps
    exact hret _ _ _ _ (by k_asm) (cb_drop (news := news) (by k_asm) fun p hp => not_sub hp) ⟨⟨_, rfl⟩, rfl⟩
end
section
local macro_rules | `(tactic| walk1) => `(tactic| first | k_extra "mineS9" | k_extra "hdr9")
theorem translated_spec : TranslatedS Mine.hd.heap_1 := by
  k_with "mineS9 subscriptTail" => ((with_reducible show PySem.wpAny _ _ (PyProof.Rows.subscriptTail (PySem.Expr.Name _ _) (PySem.Expr.Call _ _ _ _) (PySem.Value.ref _) (PySem.Value.int _ _)) _ _ _); (fail_if_success (fail_if_success (have := (by with_reducible assumption : Mine.Md 9)))); (k_dflt refine' Mine.item_tr ?c8ki ?c8kj ?c8kc ?c8kn ?c8kz ?_; (case c8ki => k_asm); (case c8kj => k_mem); (case c8kc => with_reducible assumption); (case c8kn => assumption); (case c8kz => assumption)); intro t_h'; (try dsimp only); (try k_fold))
  k_with "mineS9 subscriptTail" => ((with_reducible show PySem.wpAny _ _ (PyProof.Rows.subscriptTail _ _ (PySem.Value.ref _) (PySem.Value.int 0 _)) _ _ _); (fail_if_success (fail_if_success (have := (by with_reducible assumption : Mine.Md 9)))); with_reducible refine Mine.Stop.out ?_)
  k_with "mineS9 compareOp" => ((with_reducible show PySem.wpAny _ _ (PySem.compareOp PySem.CmpOp.In (PySem.Value.str _ _) (PySem.Value.ref _)) _ _ _); (fail_if_success (fail_if_success (have := (by with_reducible assumption : Mine.Md 9)))); with_reducible refine Mine.Stop.out ?_)
  k_with "mineS9" => (first | ((with_reducible show PySem.wpAny _ _ _ _ _ _); first | ((with_reducible show PySem.wpAny _ _ (PyProof.Rows.subscriptTail _ _ _ _) _ _ _); k_extra "mineS9 subscriptTail") | ((with_reducible show PySem.wpAny _ _ (PySem.compareOp _ _ _) _ _ _); k_extra "mineS9 compareOp") | fail))
  intro w a1 b1 ar x y z t ty tz nn r others news hT1 hX1 hT2 hS2 hz hol hoc hA hx
  have hAr : Args w news [.ref a1] [r] := .cons hT1 hX1 .nil
  have hl1 : [r].length ≤ 10 := by simp
  have hmd : Md 9 := Md.on 9
  k_with "call ref" => ((with_reducible show PySem.wpAny _ _ (PySem.call (PySem.Value.ref 377) _ _) _ _ _); k_dflt (refine' Mine.Fn.useX (setsof_spec _ _ _ _ _ _ ?c7hm ?c7hR ?c7hl) ?c7k1 ?c7k2 ?c7k3 ?c7k4 ?c7k5 ?c7kK ?c7kd ?c7ku ?_; (case c7k1 => k_asm); (case c7k2 => k_asm); (case c7k3 => k_asm); (case c7k4 => k_asm); (case c7k5 => k_asm); (case c7hR => exact Mine.Args.mono (by assumption) (by k_extra "subw")); (case c7hm => first | (with_reducible exact List.mem_cons_self) | (repeat (first | with_reducible assumption | apply List.mem_cons_of_mem | apply List.mem_append_left))); (case c7hl => with_reducible assumption); (case c7kK => first | exact rfl | assumption); (case c7kd => k_room); (case c7ku => k_units)); intro a9 ex9 h9 tk9 le9 F9 n9 N9 hS9 hF9; (try dsimp only); (try k_fold))
  k_with "call ref" => ((with_reducible show PySem.wpAny _ _ (PySem.call (PySem.Value.ref 372) _ _) _ _ _); k_dflt (refine' Mine.Fn.useL (spread_spec _ _ _ _ _ ?c7hS ?c7hl ?c7hm ?c7hc) ?c7k1 ?c7k2 ?c7k3 ?c7k4 ?c7k5 ?c7kK ?c7kd ?c7ku ?_; (case c7k1 => k_asm); (case c7k2 => k_asm); (case c7k3 => k_asm); (case c7k4 => k_asm); (case c7k5 => k_asm); (case c7hS => with_reducible assumption); (case c7hl => with_reducible assumption); (case c7hm => with_reducible assumption); (case c7hc => with_reducible assumption); (case c7kK => first | exact rfl | assumption); (case c7kd => k_room); (case c7ku => k_units)); intro a9 vs9 k9 h9 tk9 le9 F9 n9 N9 hC9 l9; have hl9 := Mine.Chs.length hC9; (try k_lt l9); (try dsimp only); (try k_fold))
  k_with "call ref" => ((with_reducible show PySem.wpAny _ _ (PySem.call (PySem.Value.ref 318) _ _) _ _ _); k_dflt (refine' Mine.Fn.useV (letters_spec _ _ _ _ _ ?c7hT) ?c7k1 ?c7k2 ?c7k3 ?c7k4 ?c7k5 ?c7kK ?c7kd ?c7ku ?_; (case c7k1 => k_asm); (case c7k2 => k_asm); (case c7k3 => k_asm); (case c7k4 => k_asm); (case c7k5 => k_asm); (case c7kK => first | exact rfl | assumption); (case c7hT => first | assumption | exact Mine.ThingIn.mono (by assumption) (by k_extra "subw") | exact Mine.thing_in (by k_mem) (by k_mem)); (case c7kd => k_room); (case c7ku => k_units)); intro h9 tk9 le9 F9 N9; (try dsimp only); (try k_fold))
  k_with "call ref" => ((with_reducible show PySem.wpAny _ _ (PySem.call (PySem.Value.ref 401) _ _) _ _ _); k_dflt (refine' Mine.Fn.useG (deleted_spec _ _ _ _ _ _ _ _ ?c7hx ?c7hm ?c7hR ?c7hl) ?c7k1 ?c7k2 ?c7k3 ?c7k4 ?c7k5 ?c7kK ?c7kd ?c7ku ?_; (case c7k1 => k_asm); (case c7k2 => k_asm); (case c7k3 => k_asm); (case c7k4 => k_asm); (case c7k5 => k_asm); (case c7hx => with_reducible assumption); (case c7hR => exact Mine.Args.mono (by assumption) (by k_extra "subw")); (case c7hm => first | (with_reducible exact List.mem_cons_self) | (repeat (first | with_reducible assumption | apply List.mem_cons_of_mem | apply List.mem_append_left))); (case c7hl => with_reducible assumption); (case c7kK => first | exact rfl | assumption); (case c7kd => k_room); (case c7ku => k_units)); intro t9 h9 tk9 le9 F9 N9; (try dsimp only); (try k_fold))
  unfold Fn
  intro p loose mean mg mb dp un gd cn cs a ccd cl outer A₀ base h₀ L m s Q E B F X N T hk hd hu hret
  refine wpAny_call ?_
  k_dflt (refine' Mine.code_defCL [Str.ofString "world", Str.ofString "text", Str.ofString "args"] [(Str.ofString "args", _), (Str.ofString "text", _), (Str.ofString "world", _)] (fun L' => [(L' + 1 + 1 + 1, none), (L' + 1 + 1, none), (L' + 1, none)]) ?k1 ?k2 ?k3 ?k4 ?k5 ?kA ?kF ?kK ?k6 ?k7 ?k8 ?k9 ?kB ?kD ?kE ?kG ?_ ?c2 ?c3 ?c4; (case kA => exact rfl); (case kF => exact rfl); (case kK => assumption); (case k1 => k_asm); (case k2 => k_asm); (case k3 => k_asm); (case k4 => k_asm); (case k5 => k_asm); (case k6 => k_is); (case k7 => k_is); (case k8 => first | exact Mine.rm0 (by with_reducible assumption) | ktr_room); (case k9 => exact rfl); (case kB => exact rfl); (case kD => decide +kernel); (case kE => exact rfl); (case kG => exact fun _ => rfl); (case c2 => exact rfl); (case c3 => exact rfl); (case c4 => exact rfl); k_whole; intro g' L' h' tk' FG' F' B' X' T' l1 o' d1' o2' d2' o3' d3' N' e_h A_h; (try k_lift B'); (try k_fold))
  refine Mine.opq ?_
  intro Qr hQr
  have hlocs_h : Mine.Names [Str.ofString "world", Str.ofString "text", Str.ofString "args", Str.ofString "sets", Str.ofString "turned", Str.ofString "at", Str.ofString "letter"] := trivial
  have hlen_h := Mine.len_of (by assumption) (by k_is)
  rename Fr _ _ _ _ => F0_h
  replace F0_h : Fr _ _ _ (Mine.lk [(Str.ofString "args", _), (Str.ofString "text", _), (Str.ofString "world", _)]) := F0_h
  k_steps
  · have e0 : others = [] := List.eq_nil_of_length_eq_zero (by (first | lia | omega))
    exact hret _ _ _ _ (by k_asm) (cb_drop (news := news) (by k_asm) (by k_extra "subw")) ⟨⟨_, by rw [trL, if_pos e0]⟩, rfl⟩
  · refine Mine.hideG ?_; intro gP_h hG_h; obtain ⟨b, mm⟩ := r; refine hG_h ?_; (try clear hG_h)
    refine Mine.hideG ?_; intro gP_h hG_h; obtain ⟨vs8, k8, hA8, hR8⟩ := hS9; refine hG_h ?_; (try clear hG_h)
    cases hR8 with
    | cons hT8 hK8 hC8 hN8 =>
    cases hN8
    rename News _ _ _ _ => N0
    have hT9 := News.isTup N0 (by k_mem)
    have hne : others ≠ [] := fun e => by rw [e, List.length_nil] at hl9; (first | lia | omega)
    rcases hC9.last with ⟨rfl, e⟩ | ⟨vs', d, u8, cs', rfl, e, hC'⟩
    · exact absurd e hne
    refine Stop.go ?_
    refine item_0 (by k_asm) (by k_mem) ?_
    have hz9 : (vs' ++ [Value.str (ch d) u8]).length ≤ 100000 := by (first | lia | omega)
    k_steps
    · have hb : b = true := by assumption
      subst hb
      refine Stop.go ?_
      k_dflt (refine Mine.ListComp_strU (_F₀ := by k_asm) (by rfl) (by with_unfolding_all rfl) (by decide) (by rfl) (by decide) (by rfl) ?_)
      k_steps
      refine Stop.go ?_
      refine SrcS.intro (by k_asm) (by k_asm) (by rw [PySem.sizeLine_eq]; have := hx; unfold Str.length at this; (first | lia | omega)) ?_
      intro g9
      refine restU_fix (fun i ys => Chs ys ((x.cps.toList.take i).map fun c => if mm.contains c then c else d)) .nil ?_ ?_
      · intro i ys v I oI C oC D m₂ h tk E' hi hJ hP hC hx9 F N off ne
        refine Mine.hideG ?_; intro gP_h hG_h; obtain ⟨c, u, hc, rfl⟩ := hP; refine hG_h ?_; (try clear hG_h)
        have hc' : x.cps.toList[i]? = some c := by simpa using hc
        k_steps
        refine Stop.go ?_
        refine in_list_strs (News.isList (by k_asm) (by k_mem)) hC8 ?_
        rw [any_ch]
        k_steps
        · have e9 : (if mm.contains c = true then c else d) = c := if_pos (by assumption)
          refine Stop.go ?_
          refine LCg.CompEnd.intro (by k_asm) (by k_asm) _ (by intro p hp; exact hp) off trivial ⟨rfl, ?_⟩
          have q := Chs.mapStep (f := fun c => if mm.contains c = true then c else d) (t := u) hJ hc'
          rw [e9] at q
          exact q
        · have e9 : (if mm.contains c = true then c else d) = d := if_neg (by simp only [Bool.not_eq_true]; assumption)
          refine Stop.go ?_
          refine LCg.CompEnd.intro (by k_asm) (by k_asm) _ (by intro p hp; exact hp) off trivial ⟨rfl, ?_⟩
          have q := Chs.mapStep (f := fun c => if mm.contains c = true then c else d) (t := u8) hJ hc'
          rw [e9] at q
          exact q
      · intro ys hys
        rw [List.take_of_length_le (by simp)] at hys
        have hle : (List.map (fun c => if mm.contains c = true then c else d) x.cps.toList).length ≤ 100000 := by rw [List.length_map]; have := hx; unfold Str.length at this; simp only [Array.length_toList]; (first | lia | omega)
        intro D8 h8 tk8 F8 N8 o8
        k_steps
        exact hret _ _ _ _ (by k_asm) (cb_drop (news := news) (by k_asm) (by k_extra "subw")) ⟨⟨_, by dsimp only; rw [trL_turned e]⟩, rfl⟩
    · have hb : b = false := by assumption
      subst hb
      refine Stop.go ?_
      rename Fr _ _ _ (fun _ => _) => F1
      k_dflt refine' For_turns F1 ?_
      k_steps
      refine Stop.go ?_
      rename News _ _ _ _ => N1
      k_dflt refine' for_enumDict mm others (Str.ofString "at") [Str.ofString "letter"] (by rfl) ?kF N1 ?kl ?kD ?turn ?done
      case kF => k_asm
      case kl => k_mem
      case kD => k_asm
      case turn =>
        rintro i y T t ⟨o, kvs⟩ nx u h7 tk7 own hy hT hln ⟨rfl, hD, hJ⟩ hoff F7 N7
        refine Mine.hideG ?_; intro gP_h hG_h; obtain ⟨c, t2, hc, rfl⟩ := Chs.at hC8 hy; refine hG_h ?_; (try clear hG_h)
        dsimp only at F7 N7 hJ hoff hD
        simp only [List.cons_append] at N7
        have hl7 := (by assumption : _ < _ ∧ _ < _ ∧ _ < _ ∧ _ < _ ∧ _ < _ ∧ _ < _ ∧ AllLt _ (news ++ ex9))
        have hall : ∀ p ∈ news ++ ex9 ++ own, p.1 ≠ _ := off_app (ne_of_allLt hl7.2.2.2.2.2.2 (Nat.le_refl _)) (fun p hp => hoff p hp _ (List.mem_map.mpr ⟨_, .head _, rfl⟩))
        have hkl := hJ.1
        have hi9 : i < mm.length := (List.getElem?_eq_some_iff.mp hc).1
        have hm9 : mm.length ≤ 100000 := hX1.2.2.1
        k_steps
        k_dflt refine' kda_set (knd := PySem.strKind _ _) ?F8 ?N8 ?U8 hD (strKind_is _ _ _ _) ?z8 ?_
        case F8 => k_asm
        case N8 => k_asm
        case U8 => k_updF
        case z8 => rw [PySem.sizeLine_eq]; (first | lia | omega)
        intro h8 o8 F8 N8 hD8
        (try dsimp only at N8)
        k_steps
        refine Stop.go ?_
        refine TurnP.next ⟨o8, _⟩ _ F8 N8 ?_ ?_ ?_ (List.forall_mem_nil _) (by kst_same) ⟨?_, rfl, hD8, hJ.step hc⟩
        · exact by k_extra "subw"
        · exact by k_extra "subw"
        · exact hoff
        · k_mem
      case done =>
        rintro ⟨o, kvs⟩ nx u h7 tk7 ⟨rfl, hD, hJ⟩ F7 N7
        rw [Chs.length hC8] at hJ
        dsimp only at F7 N7 hJ hD
        k_steps
        refine Stop.go ?_
        k_dflt (refine Mine.ListComp_strU (_F₀ := by k_asm) (by rfl) (by with_unfolding_all rfl) (by decide) (by rfl) (by decide) (by rfl) ?_)
        k_steps
        refine Stop.go ?_
        refine SrcS.intro (by k_asm) (by k_asm) (by rw [PySem.sizeLine_eq]; have := hx; unfold Str.length at this; (first | lia | omega)) ?_
        intro g9
        refine restU_fix (fun i ys => Chs ys ((x.cps.toList.take i).map (trSign mm others))) .nil ?_ ?_
        · intro i ys v I oI C oC D m₂ h tk E' hi hJ2 hP hC hx9 F N off ne
          refine Mine.hideG ?_; intro gP_h hG_h; obtain ⟨c, u, hc, rfl⟩ := hP; refine hG_h ?_; (try clear hG_h)
          have hc' : x.cps.toList[i]? = some c := by simpa using hc
          k_steps
          refine Mine.hideG ?_; intro gP_h hG_h; obtain ⟨t8, e8⟩ := hJ.get c u; refine hG_h ?_; (try clear hG_h)
          have e8' : (valueAt kvs ({ cps := #[c] } : Str)).getD (.str { cps := #[c] } u) = .str (ch (trSign mm others c)) t8 := e8
          k_dflt refine' kdg_get2 (knd := PySem.strKind _ _) ?N8 ?m8 hD ?lo8 (strKind_is _ _ _ _) _ rfl ?_
          case N8 => k_asm
          case m8 => k_mem
          case lo8 => k_asm
          rw [e8']
          k_steps
          refine Stop.go ?_
          refine LCg.CompEnd.intro (by k_asm) (by k_asm) _ (by intro p hp; exact hp) off trivial ⟨rfl, ?_⟩
          exact Chs.mapStep hJ2 hc'
        · intro ys hys
          rw [List.take_of_length_le (by simp)] at hys
          have hle : (List.map (trSign mm others) x.cps.toList).length ≤ 100000 := by rw [List.length_map]; have := hx; unfold Str.length at this; simp only [Array.length_toList]; (first | lia | omega)
          intro D8 h8 tk8 F8 N8 o8
          k_steps
          exact hret _ _ _ _ (by k_asm) (cb_drop (news := news) (by k_asm) (by k_extra "subw")) ⟨⟨_, by dsimp only; rw [trL_plain hne]⟩, rfl⟩
end
section
theorem repfirst_spec : RepFirstS Mine.hd.heap_1 := by
  intro w a1 b1 ar x y z t u v nn news hT1 hT2 hu0 hv0 huv hA hx hz
  k_with "call ref" => ((with_reducible show PySem.wpAny _ _ (PySem.call (PySem.Value.ref 318) _ _) _ _ _); k_dflt (refine' Mine.Fn.useV (letters_spec _ _ _ _ _ ?c7hT) ?c7k1 ?c7k2 ?c7k3 ?c7k4 ?c7k5 ?c7kK ?c7kd ?c7ku ?_; (case c7k1 => k_asm); (case c7k2 => k_asm); (case c7k3 => k_asm); (case c7k4 => k_asm); (case c7k5 => k_asm); (case c7kK => first | exact rfl | assumption); (case c7hT => first | assumption | exact Mine.ThingIn.mono (by assumption) (by k_extra "subw") | exact Mine.thing_in (by k_mem) (by k_mem)); (case c7kd => k_room); (case c7ku => k_units)); intro h9 tk9 le9 F9 N9; (try dsimp only); (try k_fold))
  unfold Fn
  intro p loose mean mg mb dp un gd cn cs a ccd cl outer A₀ base h₀ L m s Q E B F X N T hk hd hu hret
  refine wpAny_call ?_
  k_dflt (refine' Mine.code_defZ [Str.ofString "world", Str.ofString "text", Str.ofString "args"] ?k1 ?k2 ?k3 ?k4 ?k5 ?kA ?kF ?kK ?k6 ?k7 ?k8 ?k9 ?kB ?_ ?c2 ?c3 ?c4 ?c5; (case kA => exact rfl); (case kF => exact rfl); (case kK => assumption); (case k1 => k_asm); (case k2 => k_asm); (case k3 => k_asm); (case k4 => k_asm); (case k5 => k_asm); (case k6 => k_is); (case k7 => k_is); (case k8 => first | exact Mine.rm0 (by with_reducible assumption) | ktr_room); (case k9 => exact rfl); (case c5 => decide); (case kB => exact rfl); (case c2 => exact rfl); (case c3 => exact rfl); (case c4 => exact rfl); k_whole; intro g' L' h' tk' FG' F' N' B' X' T' e_h A_h; (try k_lift B'); (try k_fold))
  refine Mine.opq ?_
  intro Qr hQr
  have hlocs_h : Mine.Names [Str.ofString "world", Str.ofString "text", Str.ofString "args"] := trivial
  have hlen_h := Mine.len_of (by assumption) (by k_is)
  rename Fr _ _ _ _ => F0_h
  replace F0_h : Fr _ _ _ (Mine.lk [(Str.ofString "args", _), (Str.ofString "text", _), (Str.ofString "world", _)]) := F0_h
  k_steps
  rename Fr _ _ _ _ => F0
  refine call_rep4 hu0 hv0 huv (NoneBooked.up (nobook_of (by assumption) (by assumption) (by rfl)) F0.keep) hx hz ?_
  intro t9 k9
  k_steps
  exact hret _ _ _ _ (by k_asm) (by k_asm) ⟨⟨_, rfl⟩, rfl⟩
theorem repall_spec : RepAllS Mine.hd.heap_1 := by
  intro w a1 b1 ar x y z t u v nn news hT1 hT2 hu0 hv0 huv hA hx hz hr
  k_with "call ref" => ((with_reducible show PySem.wpAny _ _ (PySem.call (PySem.Value.ref 318) _ _) _ _ _); k_dflt (refine' Mine.Fn.useV (letters_spec _ _ _ _ _ ?c7hT) ?c7k1 ?c7k2 ?c7k3 ?c7k4 ?c7k5 ?c7kK ?c7kd ?c7ku ?_; (case c7k1 => k_asm); (case c7k2 => k_asm); (case c7k3 => k_asm); (case c7k4 => k_asm); (case c7k5 => k_asm); (case c7kK => first | exact rfl | assumption); (case c7hT => first | assumption | exact Mine.ThingIn.mono (by assumption) (by k_extra "subw") | exact Mine.thing_in (by k_mem) (by k_mem)); (case c7kd => k_room); (case c7ku => k_units)); intro h9 tk9 le9 F9 N9; (try dsimp only); (try k_fold))
  k_with "call ref" => ((with_reducible show PySem.wpAny _ _ (PySem.call (PySem.Value.ref 325) _ _) _ _ _); k_dflt (refine' Mine.Fn.useV (sized_spec _ _ _ _ ?c7hx) ?c7k1 ?c7k2 ?c7k3 ?c7k4 ?c7k5 ?c7kK ?c7kd ?c7ku ?_; (case c7k1 => k_asm); (case c7k2 => k_asm); (case c7k3 => k_asm); (case c7k4 => k_asm); (case c7k5 => k_asm); (case c7kK => first | exact rfl | assumption); (case c7hx => first | with_reducible assumption | exact Nat.le_trans (by with_reducible assumption) (by decide) | (first | lia | omega)); (case c7kd => k_room); (case c7ku => k_units)); intro h9 tk9 le9 F9 N9; (try dsimp only); (try k_fold))
  unfold Fn
  intro p loose mean mg mb dp un gd cn cs a ccd cl outer A₀ base h₀ L m s Q E B F X N T hk hd hu hret
  refine wpAny_call ?_
  k_dflt (refine' Mine.code_defZ [Str.ofString "world", Str.ofString "text", Str.ofString "args"] ?k1 ?k2 ?k3 ?k4 ?k5 ?kA ?kF ?kK ?k6 ?k7 ?k8 ?k9 ?kB ?_ ?c2 ?c3 ?c4 ?c5; (case kA => exact rfl); (case kF => exact rfl); (case kK => assumption); (case k1 => k_asm); (case k2 => k_asm); (case k3 => k_asm); (case k4 => k_asm); (case k5 => k_asm); (case k6 => k_is); (case k7 => k_is); (case k8 => first | exact Mine.rm0 (by with_reducible assumption) | ktr_room); (case k9 => exact rfl); (case c5 => decide); (case kB => exact rfl); (case c2 => exact rfl); (case c3 => exact rfl); (case c4 => exact rfl); k_whole; intro g' L' h' tk' FG' F' N' B' X' T' e_h A_h; (try k_lift B'); (try k_fold))
  refine Mine.opq ?_
  intro Qr hQr
  have hlocs_h : Mine.Names [Str.ofString "world", Str.ofString "text", Str.ofString "args"] := trivial
  have hlen_h := Mine.len_of (by assumption) (by k_is)
  rename Fr _ _ _ _ => F0_h
  replace F0_h : Fr _ _ _ (Mine.lk [(Str.ofString "args", _), (Str.ofString "text", _), (Str.ofString "world", _)]) := F0_h
  k_steps
  rename Fr _ _ _ _ => F0
  refine call_rep3 hu0 hv0 huv (NoneBooked.up (nobook_of (by assumption) (by assumption) (by rfl)) F0.keep) hx hz ?_
  intro t9 k9
  k_steps
  exact hret _ _ _ _ (by k_asm) (by k_asm) ⟨⟨_, rfl⟩, rfl⟩
end
section
theorem means_spec : MeansS Mine.hd.heap_1 := by
  intro w A rs c t news hS hl10
  obtain ⟨vs, k, hA, hR⟩ := hS
  unfold Fn
  intro p loose mean mg mb dp un gd cn cs a ccd cl outer A₀ base h₀ L m s Q E B F X N T hk hd hu hret
  refine wpAny_call ?_
  k_dflt (refine' Mine.code_defCL [Str.ofString "sets", Str.ofString "sign"] [(Str.ofString "sets", _)] (fun L' => [(L' + 1, some (.str (ch c) t))]) ?k1 ?k2 ?k3 ?k4 ?k5 ?kA ?kF ?kK ?k6 ?k7 ?k8 ?k9 ?kB ?kD ?kE ?kG ?_ ?c2 ?c3 ?c4; (case kA => exact rfl); (case kF => exact rfl); (case kK => assumption); (case k1 => k_asm); (case k2 => k_asm); (case k3 => k_asm); (case k4 => k_asm); (case k5 => k_asm); (case k6 => k_is); (case k7 => k_is); (case k8 => first | exact Mine.rm0 (by with_reducible assumption) | ktr_room); (case k9 => exact rfl); (case kB => exact rfl); (case kD => decide +kernel); (case kE => exact rfl); (case kG => exact fun _ => rfl); (case c2 => exact rfl); (case c3 => exact rfl); (case c4 => exact rfl); k_whole; intro g' L' h' tk' FG' F' B' X' T' l1 o' d1' N' e_h A_h; (try k_lift B'); (try k_fold))
  refine Mine.opq ?_
  intro Qr hQr
  have hlocs_h : Mine.Names [Str.ofString "sets"] := trivial
  have hlen_h := Mine.len_of (by assumption) (by k_is)
  rename Fr _ _ _ _ => F0_h
  replace F0_h : Fr _ _ _ (Mine.lk [(Str.ofString "sets", _)]) := F0_h
  k_steps
  refine Stop.go ?_
  k_dflt (refine LCt.ListComp_T (F₀ := by k_asm) (by with_unfolding_all rfl) (by decide) (by rfl) (by decide) (by rfl) ?_)
  k_steps
  refine Stop.go ?_
  have hlen := hR.length
  refine LCt.CompSrcT.ledger (by rfl) (by k_asm) (by k_asm) (List.mem_cons_of_mem _ hA) (by rw [List.size_toArray, PySem.sizeLine_eq]; (first | lia | omega)) ?_
  intro g9
  refine restT_fix (fun i ys => ys.length = ((rs.take i).filter fun r => r.2.contains c == r.1).length) rfl ?_ ?_
  · intro i ys v I oI C oC D m₂ h tk E' hi hJ hP hC hx F N off ne
    refine Mine.hideG ?_; intro gP_h hG_h; obtain ⟨T, Kk, x, tx, ws, kk, b, m, rfl, hr, hT, hK, hCh, hX⟩ := hR.get (i := i) (v := v) (by simpa using hP); refine hG_h ?_; (try clear hG_h)
    k_steps
    refine in_list_strs (News.isList (by k_asm) (by k_mem)) hCh ?_
    rw [any_ch]
    k_steps
    · refine Stop.go ?_
      refine LCg.CompEnd.intro (by k_asm) (by k_asm) _ (by intro p hp; exact hp) off (.inr ⟨_, List.mem_cons_of_mem _ hA, rfl, _, rfl⟩) ⟨rfl, ?_⟩
      rw [List.take_add_one, hr, List.filter_append, List.length_append, List.length_append, hJ]
      simp only [Option.toList, List.filter_cons, List.filter_nil]
      rw [if_pos (by assumption)]
      rfl
    · refine Stop.go ?_
      refine LCg.CompEnd.intro (by k_asm) (by k_asm) _ (by intro p hp; exact hp) off (.inr ⟨_, List.mem_cons_of_mem _ hA, rfl, _, rfl⟩) ⟨rfl, ?_⟩
      rw [List.take_add_one, hr, List.filter_append, List.length_append, hJ]
      simp only [Option.toList, List.filter_cons, List.filter_nil]
      rw [if_neg (by simp only [Bool.not_eq_true]; assumption)]
      rfl
  · intro ys hys
    rw [List.take_of_length_le (by rw [List.size_toArray, hlen]; exact Nat.le_refl _)] at hys
    intro D8 h8 tk8 F8 N8 o8
    k_steps
    refine eq_nil (by k_asm) (by k_mem) (by k_mem) (by first | k_units | ktr_units | units_room) ?_
    rw [isEmpty_len hys, ← isIn_eq]
    k_steps
    exact hret _ _ _ _ (by k_asm) (cb_drop (news := news) (by k_asm) (by k_extra "subw")) ⟨rfl, rfl⟩
end
section
theorem spots_spec : SpotsS Mine.hd.heap_1 := by
  intro w x y t u news hx hy
  unfold Fn
  intro p loose mean mg mb dp un gd cn cs a ccd cl outer A₀ base h₀ L m s Q E B F X N T hk hd hu hret
  refine wpAny_call ?_
  k_dflt (refine' Mine.code_defCL [Str.ofString "text", Str.ofString "sought"] [] (fun L' => [(L' + 1 + 1, some (.str y u)), (L' + 1, some (.str x t))]) ?k1 ?k2 ?k3 ?k4 ?k5 ?kA ?kF ?kK ?k6 ?k7 ?k8 ?k9 ?kB ?kD ?kE ?kG ?_ ?c2 ?c3 ?c4; (case kA => exact rfl); (case kF => exact rfl); (case kK => assumption); (case k1 => k_asm); (case k2 => k_asm); (case k3 => k_asm); (case k4 => k_asm); (case k5 => k_asm); (case k6 => k_is); (case k7 => k_is); (case k8 => first | exact Mine.rm0 (by with_reducible assumption) | ktr_room); (case k9 => exact rfl); (case kB => exact rfl); (case kD => decide +kernel); (case kE => exact rfl); (case kG => exact fun _ => rfl); (case c2 => exact rfl); (case c3 => exact rfl); (case c4 => exact rfl); k_whole; intro g' L' h' tk' FG' F' B' X' T' l1 o' d1' o2' d2' N' e_h A_h; (try k_lift B'); (try k_fold))
  refine Mine.opq ?_
  intro Qr hQr
  have hlocs_h : Mine.Names [] := trivial
  have hlen_h := Mine.len_of (by assumption) (by k_is)
  rename Fr _ _ _ _ => F0_h
  replace F0_h : Fr _ _ _ (Mine.lk []) := F0_h
  k_steps
  refine Stop.go ?_
  k_dflt (refine LCt.ListComp_T (F₀ := by k_asm) (by with_unfolding_all rfl) (by decide) (by rfl) (by decide) (by rfl) ?_)
  k_steps
  refine Stop.go ?_
  have hl9 : x.cps.toList.length = x.length := L_len x
  refine LCt.CompSrcT.range (n := x.length + 1) (by rfl) (by k_asm) (by k_asm) (by assumption) (range_ok (by omega) (by omega) (by omega) (by omega)) (by rw [rangeSize_nat]; omega) (by rw [PySem.sizeLine_eq]; omega) ?_
  intro g9
  refine restT_fix (fun i ys => Nats ys (spotsN x.cps.toList y.cps.toList i)) .nil ?_ ?_
  · intro i ys v I oI C oC D m₂ h tk E' hi hJ hP hC hx9 F N off ne
    refine Mine.hideG ?_; intro gP_h hG_h; obtain ⟨t9, rfl⟩ := hP; refine hG_h ?_; (try clear hG_h)
    simp only [Int.zero_add] at hx9
    k_steps
    · refine LCg.CompEnd.intro (by k_asm) (by k_asm) _ (by intro p hp; exact hp) off trivial ⟨rfl, ?_⟩
      rw [spots_hit (hit_true (by assumption) (by assumption))]
      exact hJ.snoc
    · refine LCg.CompEnd.intro (by k_asm) (by k_asm) _ (by intro p hp; exact hp) off trivial ⟨rfl, ?_⟩
      rw [spots_miss (hit_false2 (by assumption))]
      exact hJ
    · refine LCg.CompEnd.intro (by k_asm) (by k_asm) _ (by intro p hp; exact hp) off trivial ⟨rfl, ?_⟩
      rw [spots_miss (hit_false1 (by assumption))]
      exact hJ
  · intro ys hys
    intro D8 h8 tk8 F8 N8 o8
    k_steps
    refine hret _ _ _ _ (by k_asm) (cb_drop (news := (D8, listOf ys.toArray ys.length) :: news) (by k_asm) (fun p hp => by rcases List.mem_cons.mp hp with rfl | hp; exact .head _; exact .tail _ (.tail _ (.tail _ hp)))) ⟨_, _, _, rfl, rfl, ?_, fun p hp => off1_mem o8 p (.tail _ (.tail _ hp))⟩
    unfold spots
    rw [hl9]
    exact hys
end
section
theorem apart_spec : ApartS Mine.hd.heap_1 := by
  intro w x y t u news hx hy
  k_with "call ref" => ((with_reducible show PySem.wpAny _ _ (PySem.call (PySem.Value.ref 468) _ _) _ _ _); k_dflt (refine' Mine.Fn.useL (spots_spec _ _ _ _ _ _ ?c7hx ?c7hy) ?c7k1 ?c7k2 ?c7k3 ?c7k4 ?c7k5 ?c7kK ?c7kd ?c7ku ?_; (case c7k1 => k_asm); (case c7k2 => k_asm); (case c7k3 => k_asm); (case c7k4 => k_asm); (case c7k5 => k_asm); (case c7hx => first | with_reducible assumption | exact Nat.le_trans (by with_reducible assumption) (by decide) | (first | lia | omega)); (case c7hy => first | with_reducible assumption | exact Nat.le_trans (by with_reducible assumption) (by decide) | (first | lia | omega)); (case c7kK => first | exact rfl | assumption); (case c7kd => k_room); (case c7ku => k_units)); intro a9 vs9 k9 h9 tk9 le9 F9 n9 N9 hC9 l9; (try dsimp only at le9); have hl9 := Mine.Nats.length hC9; (try dsimp only); (try k_fold))
  unfold Fn
  intro p loose mean mg mb dp un gd cn cs a ccd cl outer A₀ base h₀ L m s Q E B F X N T hk hd hu hret
  refine wpAny_call ?_
  k_dflt (refine' Mine.code_defZ [Str.ofString "text", Str.ofString "sought"] ?k1 ?k2 ?k3 ?k4 ?k5 ?kA ?kF ?kK ?k6 ?k7 ?k8 ?k9 ?kB ?_ ?c2 ?c3 ?c4 ?c5; (case kA => exact rfl); (case kF => exact rfl); (case kK => assumption); (case k1 => k_asm); (case k2 => k_asm); (case k3 => k_asm); (case k4 => k_asm); (case k5 => k_asm); (case k6 => k_is); (case k7 => k_is); (case k8 => first | exact Mine.rm0 (by with_reducible assumption) | ktr_room); (case k9 => exact rfl); (case c5 => decide); (case kB => exact rfl); (case c2 => exact rfl); (case c3 => exact rfl); (case c4 => exact rfl); k_whole; intro g' L' h' tk' FG' F' N' B' X' T' e_h A_h; (try k_lift B'); (try k_fold))
  refine Mine.opq ?_
  intro Qr hQr
  have hlocs_h : Mine.Names [Str.ofString "text", Str.ofString "sought", Str.ofString "found", Str.ofString "free", Str.ofString "spot"] := trivial
  have hlen_h := Mine.len_of (by assumption) (by k_is)
  rename Fr _ _ _ _ => F0_h
  replace F0_h : Fr _ _ _ (Mine.lk [(Str.ofString "sought", _), (Str.ofString "text", _)]) := F0_h
  k_steps
  refine Stop.go ?_
  rename Fr _ _ _ (fun _ => _) => F1
  k_dflt refine' For_invVF F1 (by rfl) (by rfl) ?_
  k_steps
  refine Stop.go ?_
  have hsl : (spots x.cps.toList y.cps.toList).length ≤ 1001 := by
    have hl9 : x.cps.toList.length = x.length := L_len x
    unfold spots spotsN
    refine Nat.le_trans (List.length_filter_le _ _) ?_
    rw [List.length_range]; (first | lia | omega)
  have hyl : y.cps.toList.length = y.length := L_len y
  have hxl : x.cps.toList.length = x.length := L_len x
  rename News _ _ _ _ => N1
  have N2 := cb_drop (news := (_, listOf #[] 0) :: (a9, listOf vs9.toArray k9) :: (_, _) :: news) N1 (by intro p hp; rcases List.mem_cons.mp hp with rfl | hp; exact .tail _ (.tail _ (.head _)); rcases List.mem_cons.mp hp with rfl | hp; exact .head _; rcases List.mem_cons.mp hp with rfl | hp; exact .tail _ (.head _); exact .tail _ (.tail _ (.tail _ hp)))
  clear N1
  refine for_list (σ := ApC) (nn := k9) (fun c => [(Str.ofString "free", Value.int c.free c.tf)]) [] (ApJ _ _ y.cps.toList (spots x.cps.toList y.cps.toList)) ⟨[], 0, 0, _⟩ (by rfl) (.tail _ (.head _)) (by k_asm) N2 (by kst_all) ⟨rfl, .nil, rfl⟩ ?turn ?done
  case turn =>
    rintro i v ⟨fs, cap, fr, tf⟩ nx u h7 tk7 own hv hln ⟨rfl, hJ, hfr⟩ hoff F7 N7
    dsimp only at F7 N7 hJ hoff hfr
    simp only [List.cons_append] at N7
    refine Mine.hideG ?_; intro gP_h hG_h; obtain ⟨n, tn, hn, rfl⟩ := Nats.at hC9 hv; refine hG_h ?_; (try clear hG_h)
    have hown : ∀ p ∈ own, p.1 ≠ _ := fun p hp => hoff p hp _ (List.mem_map.mpr ⟨_, .head _, rfl⟩)
    have hfl := Nats.length hJ
    have hfl2 := apartL_len y.cps.toList ((spots x.cps.toList y.cps.toList).take i) ([], 0)
    rw [← hfl] at hfl2
    simp only [List.length_nil, List.length_take] at hfl2
    have hnle := spots_le n (List.mem_of_getElem? hn)
    have hfle := apartL_free (B := x.length) y.cps.toList ((spots x.cps.toList y.cps.toList).take i) ([], 0) (fun k hk => hxl ▸ spots_le k (List.mem_of_mem_take hk)) (Nat.zero_le _)
    dsimp only at hown
    have hst := apartL_snoc y.cps.toList ((spots x.cps.toList y.cps.toList).take i) n ([], 0)
    have htk : (spots x.cps.toList y.cps.toList).take (i + 1) = (spots x.cps.toList y.cps.toList).take i ++ [n] := by rw [List.take_add_one, hn]; rfl
    rw [← htk] at hst
    dsimp only at hst
    k_steps
    · have hif : (apartL y.cps.toList ((spots x.cps.toList y.cps.toList).take i) ([], 0)).2 ≤ n := by (first | lia | omega)
      rw [if_pos hif] at hst
      refine Stop.go ?_
      rename Fr _ _ _ _ => F0
      rename News _ _ _ _ => N0
      refine TurnP.next ⟨fs ++ [Value.int (n : Int) tn], cap + 1, (n : Int) + (y.length : Int), _⟩ _ F0 N0 ?_ ?_ ?_ (by kst_all) (by kst_same) ⟨?_, rfl, ?_, ?_⟩
      · exact by k_extra "subw"
      · exact by k_extra "subw"
      · exact hoff
      · k_mem
      · rw [hst]; exact hJ.snoc
      · rw [hst]; show (n : Int) + (y.length : Int) = ((n + y.cps.toList.length : Nat) : Int); (first | lia | omega)
    · have hif : ¬ (apartL y.cps.toList ((spots x.cps.toList y.cps.toList).take i) ([], 0)).2 ≤ n := by (first | lia | omega)
      rw [if_neg hif] at hst
      refine Stop.go ?_
      rename Fr _ _ _ _ => F0
      rename News _ _ _ _ => N0
      refine TurnP.next ⟨fs, cap, fr, tf⟩ _ F0 N0 ?_ ?_ ?_ (by kst_all) (by kst_same) ⟨?_, rfl, ?_, ?_⟩
      · exact by k_extra "subw"
      · exact by k_extra "subw"
      · exact hoff
      · k_mem
      · rw [hst]; exact hJ
      · rw [hst]; exact hfr
  case done =>
    rintro ⟨fs, cap, fr, tf⟩ nx u h7 tk7 ⟨rfl, hJ, hfr⟩ F7 N7
    rw [hl9, List.take_of_length_le (Nat.le_refl _)] at hJ
    dsimp only at F7 N7 hJ
    k_steps
    exact hret _ _ _ _ (by k_asm) (cb_drop (news := (_, listOf fs.toArray cap) :: news) (by k_asm) (by intro p hp; rcases List.mem_cons.mp hp with rfl | hp; exact .head _; exact .tail _ (.tail _ (.tail _ hp)))) ⟨_, _, _, rfl, rfl, hJ, by k_all⟩
end
section
theorem take2_spec : Take2S Mine.hd.heap_1 := by
  exact take2_of take_spec
end
section
local macro_rules | `(tactic| walk1) => `(tactic| first | k_extra "mineS14" | k_extra "hdr9")
theorem parts_spec : PartsS Mine.hd.heap_1 := by
  k_with_none
  k_with "memw" => first | with_reducible exact List.mem_cons_self | (with_reducible refine List.mem_cons_of_mem _ ?_; k_extra "memw") | with_reducible assumption | (with_reducible refine List.mem_append_left _ ?_; k_extra "memw") | (with_reducible refine List.mem_append_right _ ?_; k_extra "memw")
  k_with "sufw" => first | with_reducible exact Mine.sb_refl | with_reducible assumption | (with_reducible refine Mine.sb_tail ?_; k_extra "sufw") | (with_reducible refine Mine.sb_left ?_; k_extra "sufw") | (with_reducible refine Mine.sb_right ?_; k_extra "sufw")
  k_with "subw" => first | k_extra "sufw" | with_reducible exact Mine.sb_nil | (with_reducible refine Mine.sb_cons ?_ ?_; (k_extra "memw"); (k_extra "subw")) | (with_reducible refine Mine.sb_app ?_ ?_; (k_extra "subw"); (k_extra "subw"))
  k_with "inn" => first | with_reducible exact Mine.InN.here | (with_reducible refine Mine.InN.there ?_; k_extra "inn")
  k_with "alln" => first | with_reducible exact Mine.AllN.nil | (with_reducible refine Mine.AllN.co ?_; k_extra "alln") | (with_reducible refine Mine.AllN.nm ?_ ?_; (k_extra "inn"); (k_extra "alln"))
  k_with "evk" => first | ((with_reducible show Mine.Evs _ _ _ _ _ _); first | ((with_reducible apply Mine.Evs.at4 (by with_reducible assumption)); (k_extra "alln"); exact And.intro rfl rfl) | (with_reducible apply Mine.Evs.cons <;> k_extra "evk")) | ((with_reducible show Mine.Ev _ _ (PySem.Expr.Name _ _) _ _ _); (with_reducible apply Mine.Ev.at4 (by with_reducible assumption)); (k_extra "alln"); exact And.intro rfl rfl) | ((with_reducible show Mine.Ev _ _ (PySem.Expr.Constant _ _ _) _ _ _); exact Mine.Ev.atK (And.intro rfl rfl)) | (with_reducible apply Mine.Ev.add <;> k_extra "evk") | (with_reducible apply Mine.Ev.sub <;> k_extra "evk") | (with_reducible apply Mine.Ev.mul <;> first | k_extra "evk" | (try dsimp only; mul_fits)) | (with_reducible apply Mine.Ev.len; exact rfl; k_extra "evk"; first | with_reducible assumption | exact Nat.le_trans (by with_reducible assumption) (by decide) | omega) | exact Mine.EvO.no | (with_reducible apply Mine.EvO.so; k_extra "evk")
  k_with "k_size9" => (simp only [Array.size_push, List.size_toArray, List.length_cons, List.length_nil, List.length_append, List.nil_append, Array.size_empty, List.push_toArray]; first | decide | (first | lia | omega))
  k_with "top_raise09" => ((repeat (first | exact Mine.NeC.here | exact Mine.NeC.last | refine Mine.NeC.there ?_)); done)
  k_with "k_ne9" => ((try dsimp only); first | with_reducible assumption | exact Nat.succ_ne_self _ | exact (Nat.succ_ne_self _).symm | exact Nat.ne_of_lt (by with_reducible assumption) | exact Nat.ne_of_gt (by with_reducible assumption) | exact Mine.al0 (by with_reducible assumption) (by k_extra "memw") | exact Mine.au0 (by with_reducible assumption) (by k_extra "memw") | exact Mine.al1 (by with_reducible assumption) (by k_extra "memw") | exact Mine.al2 (by with_reducible assumption) (by k_extra "memw") | exact Mine.al3 (by with_reducible assumption) (by k_extra "memw") | exact Mine.al4 (by with_reducible assumption) (by k_extra "memw") | exact Mine.al5 (by with_reducible assumption) (by k_extra "memw") | exact Mine.au1 (by with_reducible assumption) (by k_extra "memw") | exact Mine.au2 (by with_reducible assumption) (by k_extra "memw") | exact Mine.au3 (by with_reducible assumption) (by k_extra "memw") | exact Mine.au4 (by with_reducible assumption) (by k_extra "memw") | exact Mine.au5 (by with_reducible assumption) (by k_extra "memw") | exact Mine.of0 (by with_reducible assumption) (by k_extra "memw") | exact Mine.of1 (by with_reducible assumption) (by k_extra "memw") | exact Mine.o1a (by with_reducible assumption) (by k_extra "memw") | exact Mine.o1b (by with_reducible assumption) (by k_extra "memw") | exact Mine.o3I (by with_reducible assumption) (by k_extra "memw") | exact Mine.o3C (by with_reducible assumption) (by k_extra "memw") | exact Mine.o3D (by with_reducible assumption) (by k_extra "memw") | exact Mine.o3i (by with_reducible assumption) (by k_extra "memw") | exact Mine.o3c (by with_reducible assumption) (by k_extra "memw") | exact Mine.o3d (by with_reducible assumption) (by k_extra "memw") | exact Mine.n3a (by with_reducible assumption) | exact Mine.n3b (by with_reducible assumption) | exact Mine.n3c (by with_reducible assumption) | exact Mine.n3d (by with_reducible assumption) | exact Mine.n3e (by with_reducible assumption) | exact Mine.n3f (by with_reducible assumption) | ((first | lia | omega)))
  k_with "k_room9" => first | exact Mine.rm0 (by with_reducible assumption) | exact Mine.rm1 (by with_reducible assumption) (by decide) | exact Mine.rm2 (by with_reducible assumption) (by decide) | decide | ktr_room
  k_with "k_units9" => first | exact Mine.rm0 (by with_reducible assumption) | exact Mine.rm1 (by with_reducible assumption) (by decide) | exact Mine.rm2 (by with_reducible assumption) (by decide) | decide | ktr_units
  k_with "k_all9" => first | with_reducible assumption | exact Mine.as0 (by with_reducible assumption) (by k_extra "subw") | exact Mine.as1 (by with_reducible assumption) (by k_extra "subw") | exact Mine.as2 (by with_reducible assumption) (by k_extra "subw") | exact Mine.as3 (by with_reducible assumption) (by k_extra "subw") | exact Mine.as4 (by with_reducible assumption) (by k_extra "subw") | exact Mine.as5 (by with_reducible assumption) (by k_extra "subw") | (with_reducible refine Mine.off_app ?_ ?_ <;> k_all) | exact Mine.ne_fresh2 (by assumption) (by k_extra "memw") | assumption | exact Mine.ne_of_allLt (by assumption) (by first | exact Nat.le_refl _ | exact Nat.le_succ _ | (first | lia | omega)) | exact Mine.ne_of_lt (by assumption) (by first | exact Nat.le_refl _ | exact Nat.le_succ _ | exact Nat.le_add_right _ 2 | exact Nat.le_add_right _ 3 | (first | lia | omega))
  k_with "k_updF9" => ((with_reducible refine' Mine.updF_app ?c8a ?c8b); (case c8b => k_all); (case c8a => k_updF))
  k_with "k_upd9" => ((with_reducible refine' Mine.upd_app ?c8a ?c8b); (case c8b => k_all); (case c8a => k_upd))
  k_with "k_mem9" => first | k_extra "memw" | exact List.mem_cons_self | ktr_member
  k_with "ksw_same9" => (intro z h2 h3; (repeat' (with_reducible refine Mine.if_skip ?_ ?_)); (all_goals (first | exact Mine.kst_keep' h2 h3 rfl | (have h4 := h2 _ (.head _); exact h4) | (have h4 := h2 _ (.tail _ (.head _)); exact h4) | (have h4 := h2 _ (.tail _ (.tail _ (.head _))); exact h4) | exact Mine.ne_stored h3 (by simp))))
  k_with "kst_same9" => (intro z h1 h2 h3; (repeat' (with_reducible refine Mine.if_skip ?_ ?_)); (all_goals (first | exact h1 | exact Mine.kst_keep' h2 h3 rfl | (have h4 := h2 _ (.head _); exact h4) | (have h4 := h2 _ (.tail _ (.head _)); exact h4) | (have h4 := h2 _ (.tail _ (.tail _ (.head _))); exact h4) | exact Mine.ne_stored h3 (by simp))))
  k_with "hdr9 eval" => with_reducible refine Mine.stop_comp ?_
  k_with "hdr9 eval" => ((with_reducible show PySem.wpAny _ _ (PySem.eval (PySem.Expr.BinOp _ _ _ _) _) _ _ _); (first | (k_dflt refine' Mine.ev_val ?c8o ?c8F ?c8X ?c8T ?c8l ?c8k ?c8v ?_; (case c8o => rfl); (case c8F => k_asm); (case c8X => k_asm); (case c8T => k_asm); (case c8l => first | with_reducible assumption | k_is); (case c8k => first | exact rfl | assumption); (case c8v => k_extra "evk"); k_whole) | (k_dflt refine' Mine.binop_ev ?c8o ?c8F ?c8X ?c8T ?c8l ?c8k ?c8v ?c8u ?_; (case c8o => rfl); (case c8F => k_asm); (case c8X => k_asm); (case c8T => k_asm); (case c8l => first | with_reducible assumption | k_is); (case c8k => first | exact rfl | assumption); (case c8v => k_extra "evk"); (case c8u => k_extra "evk"); k_whole)))
  k_with "hdr9 eval" => ((with_reducible show PySem.wpAny _ _ (PySem.eval (PySem.Expr.Call (PySem.Expr.Name _ _) (_ :: _) [] _) _) _ _ _); (first | (k_dflt refine' Mine.call_ev ?c8o ?c8F ?c8X ?c8T ?c8e ?c8l ?c8g ?c8k ?c8f ?c8d ?c8v ?c8p ?_; (case c8o => rfl); (case c8F => k_asm); (case c8X => k_asm); (case c8T => k_asm); (case c8l => first | with_reducible assumption | k_is); (case c8k => first | exact rfl | assumption); (case c8v => k_extra "evk"); (case c8f => exact rfl); (case c8d => decide); (case c8e => k_is); (case c8g => k_is); (case c8p => exact rfl); k_whole) | (k_dflt refine' Mine.callb_ev ?c8o ?c8F ?c8X ?c8T ?c8e ?c8b ?c8n ?c8l ?c8k ?c8f ?c8d ?c8v ?c8p ?_; (case c8o => rfl); (case c8F => k_asm); (case c8X => k_asm); (case c8T => k_asm); (case c8l => first | with_reducible assumption | k_is); (case c8k => first | exact rfl | assumption); (case c8v => k_extra "evk"); (case c8f => exact rfl); (case c8d => decide); (case c8e => k_is); (case c8b => boot_fast); (case c8n => decide); (case c8p => exact rfl); k_whole)))
  k_with "hdr9 eval" => ((with_reducible show PySem.wpAny _ _ (PySem.eval (PySem.Expr.Compare _ [_] [_] _) _) _ _ _); (k_dflt refine' Mine.cmp_ev ?c8o ?c8F ?c8X ?c8T ?c8l ?c8k ?c8v ?c8u ?c8b ?_; (case c8o => rfl); (case c8F => k_asm); (case c8X => k_asm); (case c8T => k_asm); (case c8l => first | with_reducible assumption | k_is); (case c8k => first | exact rfl | assumption); (case c8v => k_extra "evk"); (case c8u => k_extra "evk"); (case c8b => with_unfolding_all rfl); k_whole))
  k_with "hdr9 eval" => ((with_reducible show PySem.wpAny _ _ (PySem.eval (PySem.Expr.Slice _ _ none _) _) _ _ _); (fail_if_success (have := (by with_reducible assumption : Mine.Md 9))); (fail_if_success (have := (by with_reducible assumption : Mine.Md 22))); (k_dflt refine' Mine.slice_ev ?c8o ?c8F ?c8X ?c8T ?c8l ?c8k ?c8v ?c8u ?_; (case c8o => rfl); (case c8F => k_asm); (case c8X => k_asm); (case c8T => k_asm); (case c8l => first | with_reducible assumption | k_is); (case c8k => first | exact rfl | assumption); (case c8v => k_extra "evk"); (case c8u => k_extra "evk"); k_whole))
  k_with "hdr9 eval" => ((with_reducible show PySem.wpAny _ _ (PySem.eval (PySem.Expr.Subscript _ _ _) _) _ _ _); (k_dflt refine' Mine.sub_ev ?c8o ?c8F ?c8X ?c8T ?c8l ?c8k ?c8v ?c8u ?_; (case c8o => rfl); (case c8F => k_asm); (case c8X => k_asm); (case c8T => k_asm); (case c8l => first | with_reducible assumption | k_is); (case c8k => first | exact rfl | assumption); (case c8v => k_extra "evk"); (case c8u => k_extra "evk"); k_whole))
  k_with "hdr9 call" => ((with_reducible show PySem.wpAny _ _ (PySem.call (PySem.Value.builtin "len") [PySem.Value.str _ _]) _ _ _); (with_reducible refine Mine.len_s ?c8b ?_); (case c8b => first | with_reducible assumption | exact Nat.le_trans (by with_reducible assumption) (by decide)))
  k_with "hdr9 call" => ((with_reducible show PySem.wpAny _ _ (PySem.call (PySem.Value.ref _) _ _) _ _ _); k_dflt ((refine PySem.wpAny_call ?_); k_enter))
  k_with "hdr9 call" => ((with_reducible show PySem.wpAny _ _ (PySem.call (PySem.Value.ref _) _ _) _ _ _); k_extra "call ref")
  k_with "hdr9 call" => ((with_reducible show PySem.wpAny _ _ (PySem.call (PySem.Value.builtin "list.append") [PySem.Value.ref _, _] _) _ _ _); (k_dflt refine' Mine.append_led ?c8kf ?c8kn ?c8ku ?c8kz ?_; (case c8kf => k_asm); (case c8kn => k_asm); (case c8ku => k_upd); (case c8kz => (rw [PySem.sizeLine_eq]; first | decide | exact Nat.le_trans (by with_reducible assumption) (by decide) | exact Nat.le_trans (Nat.succ_le_succ (by with_reducible assumption)) (by decide) | (first | lia | omega))); k_whole); intro h_h F_h n_h N_h; (try dsimp only); (try k_fold))
  k_with "hdr9 call" => ((with_reducible show PySem.wpAny _ _ (PySem.call (PySem.Value.builtin "list.extend") [PySem.Value.ref _, PySem.Value.ref _] _) _ _ _); (k_dflt refine' Mine.extend_2 ?c8kf ?c8kn ?c8ku ?c8kv ?c8kz ?_; (case c8kf => k_asm); (case c8kn => k_asm); (case c8ku => k_ne); (case c8kv => k_all); (case c8kz => (rw [PySem.sizeLine_eq]; first | decide | exact Nat.le_trans (by with_reducible assumption) (by decide) | exact Nat.le_trans (Nat.succ_le_succ (by with_reducible assumption)) (by decide) | (first | lia | omega))); k_whole); intro h_h n_h F_h N_h; (try dsimp only); (try k_fold))
  k_with "hdr9 call" => ((with_reducible show PySem.wpAny _ _ (PySem.call (PySem.Value.builtin "len") [PySem.Value.ref _]) _ _ _); (k_dflt refine' PyProof.Rows.len_list ?c8kl ?c8kf ?_; (case c8kl => exact PyProof.Rows.News.isList (by k_asm) (by k_mem)); (case c8kf => (simp only [List.size_toArray]; (first | lia | omega))); k_whole); (try simp only [List.size_toArray]))
  k_with "hdr9 call" => ((with_reducible show PySem.wpAny _ _ (PySem.call (PySem.Value.builtin "str.join") [PySem.Value.str _ _, PySem.Value.ref _]) _ _ _); (k_dflt refine' Mine.call_join_chs ?c8kn ?c8km ?c8kc ?c8kb ?_; (case c8kn => k_asm); (case c8km => k_mem); (case c8kc => with_reducible assumption); (case c8kb => first | with_reducible assumption | (first | lia | omega)); k_whole); intro t_h k_h; (try dsimp only); (try k_fold))
  k_with "hdr9 call" => with_reducible refine Mine.stop_enum ?_
  k_with "hdr9 call" => ((with_reducible show PySem.wpAny _ _ (PySem.call (PySem.Value.builtin "sorted") [PySem.Value.ref _]) _ _ _); (k_dflt refine' Mine.sorted_two ?c8hF ?c8hN ?c8h1 ?_; (case c8hF => k_asm); (case c8hN => k_asm); (case c8h1 => k_mem)); intro d_h h_h lo_h hi_h t_h u_h e_h F_h n_h N_h l_h hlo_h hab_h; (try dsimp only); (try k_fold))
  k_with "hdr9 call" => ((with_reducible show PySem.wpAny _ _ (PySem.call (PySem.Value.builtin "str.join") [PySem.Value.str _ _, PySem.Value.ref _]) _ _ _); (k_dflt refine' Mine.call_join_tok ?c8kn ?c8km ?c8kc ?c8kb ?c8k0 ?c8ky ?_; (case c8kn => k_asm); (case c8km => k_mem); (case c8kc => with_reducible assumption); (case c8kb => first | with_reducible assumption | (first | lia | omega)); (case c8k0 => with_reducible assumption); (case c8ky => with_reducible assumption); k_whole); intro t_h k_h le_h p_h lt_h; (try dsimp only at le_h); (try dsimp only); (try k_fold))
  k_with "hdr9 exec" => with_reducible refine Mine.stop_for ?_
  k_with "hdr9 exec" => with_reducible refine Mine.stop_while ?_
  k_with "hdr9 exec" => with_reducible refine Mine.stop_asg ?_
  k_with "hdr9 exec" => ((with_reducible show PySem.wpAny _ _ (PySem.exec (PySem.Stmt.Assign [PySem.Expr.Name _ _] _ _) _) _ _ _); (k_dflt refine' Mine.asg_ev ?c8o ?c8F ?c8N ?c8X ?c8T ?c8l ?c8k ?c8v ?c8x ?c8s ?_; (case c8N => k_asm); (case c8F => k_asm); (case c8X => k_asm); (case c8T => k_asm); (case c8l => first | with_reducible assumption | k_is); (case c8k => first | exact rfl | assumption); (case c8v => k_extra "evk"); (case c8x => exact rfl); (case c8s => exact rfl); k_whole); intro h_h m_h F_h N_h; (try k_sweep))
  k_with "hdr9 exec" => ((with_reducible show PySem.wpAny _ _ (PySem.exec (PySem.Stmt.Return (some _) _) _) _ _ _); (k_dflt refine' Mine.ret_ev ?c8o ?c8F ?c8X ?c8T ?c8l ?c8k ?c8v ?_; (case c8o => rfl); (case c8F => k_asm); (case c8X => k_asm); (case c8T => k_asm); (case c8l => first | with_reducible assumption | k_is); (case c8k => first | exact rfl | assumption); (case c8v => k_extra "evk"); k_whole))
  k_with "hdr9 subscriptTail" => ((with_reducible show PySem.wpAny _ _ (PyProof.Rows.subscriptTail _ _ (PySem.Value.str _ _) (PySem.Value.int _ _)) _ _ _); (k_dflt refine' Mine.item_s ?c8x ?c8y ?c8b ?c8s ?c8t ?_; (case c8x => first | with_reducible assumption | exact Int.natCast_nonneg _ | exact Mine.nn1 | exact Mine.nn2); (case c8y => with_reducible assumption); (case c8b => first | with_reducible assumption | exact Nat.le_trans (by with_reducible assumption) (by decide)); (case c8s => with_unfolding_all rfl); (case c8t => (intro _; with_unfolding_all rfl)); k_whole); intro _)
  k_with "hdr9 subscriptTail" => ((with_reducible show PySem.wpAny _ _ (PyProof.Rows.subscriptTail _ _ (PySem.Value.ref _) (PySem.Value.int 0 _)) _ _ _); (k_dflt refine' Mine.item_0 ?c8ki ?c8kj ?_; (case c8ki => k_asm); (case c8kj => k_mem); k_whole))
  k_with "hdr9 subscriptTail" => ((with_reducible show PySem.wpAny _ _ (PyProof.Rows.subscriptTail _ _ (PySem.Value.ref _) (PySem.Value.int 1 _)) _ _ _); (k_dflt refine' Mine.item_1 ?c8ki ?c8kj ?_; (case c8ki => k_asm); (case c8kj => k_mem); k_whole))
  k_with "hdr9 subscriptTail" => ((with_reducible show PySem.wpAny _ _ (PyProof.Rows.subscriptTail _ _ (PySem.Value.ref _) (PySem.Value.int 2 _)) _ _ _); (k_dflt refine' Mine.item_2 ?c8ki ?c8kj ?_; (case c8ki => k_asm); (case c8kj => k_mem); k_whole))
  k_with "hdr9 subscriptTail" => ((with_reducible show PySem.wpAny _ _ (PyProof.Rows.subscriptTail _ _ (PySem.Value.ref _) (PySem.Value.int 3 _)) _ _ _); (k_dflt refine' Mine.item_3 ?c8ki ?c8kj ?_; (case c8ki => k_asm); (case c8kj => k_mem); k_whole))
  k_with "hdr9 subscriptTail" => ((with_reducible show PySem.wpAny _ _ (PyProof.Rows.subscriptTail _ _ (PySem.Value.ref _) (PySem.Value.int (-1) _)) _ _ _); (k_dflt refine' Mine.item_last ?c8ki ?c8kj ?_; (case c8ki => k_asm); (case c8kj => k_mem); k_whole))
  k_with "hdr9 subscriptTail" => ((with_reducible show PySem.wpAny _ _ (PyProof.Rows.subscriptTail _ (PySem.Expr.Call _ _ _ _) (PySem.Value.str _ _) (PySem.Value.int _ _)) _ _ _); (k_dflt refine' Mine.item_pick ?c8h0 ?c8h1 ?c8hx ?_; (case c8h0 => (first | lia | omega)); (case c8h1 => (first | lia | omega)); (case c8hx => (first | lia | omega))); intro c_h hc_h; (try dsimp only); (try k_fold))
  k_with "hdr9 isTrue" => ((with_reducible show PySem.wpAny _ _ (PySem.isTrue (PySem.Expr.Compare _ [_] [_] _) _ _) _ _ _); (k_dflt refine' Mine.isTc_ev ?c8o ?c8F ?c8X ?c8T ?c8l ?c8k ?c8v ?c8u ?c8b ?_; (case c8o => rfl); (case c8F => k_asm); (case c8X => k_asm); (case c8T => k_asm); (case c8l => first | with_reducible assumption | k_is); (case c8k => first | exact rfl | assumption); (case c8v => k_extra "evk"); (case c8u => k_extra "evk"); (case c8b => with_unfolding_all rfl); k_whole))
  k_with "hdr9 isTrue" => ((with_reducible show PySem.wpAny _ _ (PySem.isTrue (PySem.Expr.Compare _ [PySem.CmpOp.Lt] [_] _) _ _) _ _ _); (k_dflt refine' Mine.isT_lt ?c8o ?c8F ?c8X ?c8T ?c8l ?c8k ?c8v ?c8u ?c8b ?_ ?_; (case c8o => rfl); (case c8F => k_asm); (case c8X => k_asm); (case c8T => k_asm); (case c8l => first | with_reducible assumption | k_is); (case c8k => first | exact rfl | assumption); (case c8v => k_extra "evk"); (case c8u => k_extra "evk"); (case c8b => with_unfolding_all rfl)); all_goals (intro a_h; first | exact absurd a_h (by decide) | exact absurd (by decide) a_h | exact absurd a_h (Int.not_lt.mpr (Int.natCast_nonneg _)) | exact absurd (Int.natCast_nonneg _) a_h | skip))
  k_with "hdr9 isTrue" => ((with_reducible show PySem.wpAny _ _ (PySem.isTrue (PySem.Expr.Compare _ [PySem.CmpOp.LtE] [_] _) _ _) _ _ _); (k_dflt refine' Mine.isT_le ?c8o ?c8F ?c8X ?c8T ?c8l ?c8k ?c8v ?c8u ?c8b ?_ ?_; (case c8o => rfl); (case c8F => k_asm); (case c8X => k_asm); (case c8T => k_asm); (case c8l => first | with_reducible assumption | k_is); (case c8k => first | exact rfl | assumption); (case c8v => k_extra "evk"); (case c8u => k_extra "evk"); (case c8b => with_unfolding_all rfl)); all_goals (intro a_h; first | exact absurd a_h (by decide) | exact absurd (by decide) a_h | exact absurd a_h (Int.not_lt.mpr (Int.natCast_nonneg _)) | exact absurd (Int.natCast_nonneg _) a_h | skip))
  k_with "hdr9 isTrue" => ((with_reducible show PySem.wpAny _ _ (PySem.isTrue (PySem.Expr.Compare _ [PySem.CmpOp.Gt] [_] _) _ _) _ _ _); (k_dflt refine' Mine.isT_gt ?c8o ?c8F ?c8X ?c8T ?c8l ?c8k ?c8v ?c8u ?c8b ?_ ?_; (case c8o => rfl); (case c8F => k_asm); (case c8X => k_asm); (case c8T => k_asm); (case c8l => first | with_reducible assumption | k_is); (case c8k => first | exact rfl | assumption); (case c8v => k_extra "evk"); (case c8u => k_extra "evk"); (case c8b => with_unfolding_all rfl)); all_goals (intro a_h; first | exact absurd a_h (by decide) | exact absurd (by decide) a_h | exact absurd a_h (Int.not_lt.mpr (Int.natCast_nonneg _)) | exact absurd (Int.natCast_nonneg _) a_h | skip))
  k_with "hdr9 isTrue" => ((with_reducible show PySem.wpAny _ _ (PySem.isTrue (PySem.Expr.Compare _ [PySem.CmpOp.GtE] [_] _) _ _) _ _ _); (k_dflt refine' Mine.isT_ge ?c8o ?c8F ?c8X ?c8T ?c8l ?c8k ?c8v ?c8u ?c8b ?_ ?_; (case c8o => rfl); (case c8F => k_asm); (case c8X => k_asm); (case c8T => k_asm); (case c8l => first | with_reducible assumption | k_is); (case c8k => first | exact rfl | assumption); (case c8v => k_extra "evk"); (case c8u => k_extra "evk"); (case c8b => with_unfolding_all rfl)); all_goals (intro a_h; first | exact absurd a_h (by decide) | exact absurd (by decide) a_h | exact absurd a_h (Int.not_lt.mpr (Int.natCast_nonneg _)) | exact absurd (Int.natCast_nonneg _) a_h | skip))
  k_with "hdr9 isTrue" => ((with_reducible show PySem.wpAny _ _ (PySem.isTrue (PySem.Expr.Compare _ [PySem.CmpOp.Eq] [_] _) _ _) _ _ _); (k_dflt refine' Mine.isT_eq ?c8o ?c8F ?c8X ?c8T ?c8l ?c8k ?c8v ?c8u ?c8b ?_ ?_; (case c8o => rfl); (case c8F => k_asm); (case c8X => k_asm); (case c8T => k_asm); (case c8l => first | with_reducible assumption | k_is); (case c8k => first | exact rfl | assumption); (case c8v => k_extra "evk"); (case c8u => k_extra "evk"); (case c8b => with_unfolding_all rfl)); all_goals (intro a_h; first | exact absurd a_h (by decide) | exact absurd (by decide) a_h | exact absurd a_h (Int.not_lt.mpr (Int.natCast_nonneg _)) | exact absurd (Int.natCast_nonneg _) a_h | skip))
  k_with "hdr9 isTrue" => ((with_reducible show PySem.wpAny _ _ (PySem.isTrue (PySem.Expr.Compare _ [PySem.CmpOp.NotEq] [_] _) _ _) _ _ _); (k_dflt refine' Mine.isT_ne ?c8o ?c8F ?c8X ?c8T ?c8l ?c8k ?c8v ?c8u ?c8b ?_ ?_; (case c8o => rfl); (case c8F => k_asm); (case c8X => k_asm); (case c8T => k_asm); (case c8l => first | with_reducible assumption | k_is); (case c8k => first | exact rfl | assumption); (case c8v => k_extra "evk"); (case c8u => k_extra "evk"); (case c8b => with_unfolding_all rfl)); all_goals (intro a_h; first | exact absurd a_h (by decide) | exact absurd (by decide) a_h | exact absurd a_h (Int.not_lt.mpr (Int.natCast_nonneg _)) | exact absurd (Int.natCast_nonneg _) a_h | skip))
  k_with "hdr9 execs" => ((with_reducible show PySem.wpAny _ _ (PySem.execs (_ :: _) _) _ _ _); (try ((fail_if_success (fail_if_success (with_reducible show PySem.wpAny _ _ _ _ _ (PySem.Shared.mk _ _ _ (_ + 1) _)))); (with_reducible refine Mine.toksg ?_); intro tk_h)); (with_reducible refine Mine.opq ?_); intro Qs_h hQs_h)
  k_with "hdr9 execs" => ((with_reducible show PySem.wpAny _ _ (PySem.execs (_ :: _) _) _ _ _); (fail_if_success (fail_if_success (first | with_reducible refine Mine.isS (by with_reducible assumption) ?_ | with_reducible refine Mine.isO (by with_reducible assumption) ?_))); first | ((fail_if_success (fail_if_success (with_reducible show PySem.wpAny _ _ _ _ _ (PySem.Shared.mk _ _ _ (_ + 1) _)))); first | ((with_reducible refine Mine.execs_oneg ?_); intro tk_h) | ((with_reducible refine Mine.opqSg ?_); intro tk_h Qs_h hQs_h)) | (with_reducible refine Mine.execs_one ?_) | ((with_reducible refine Mine.opqS ?_); intro Qs_h hQs_h))
  k_with "hdr9 storeName" => ((with_reducible show PySem.wpAny _ _ (PySem.storeName _ _ _) _ _ _); (k_dflt refine' Mine.store_c ?c8F ?c8N ?c8c ?c8U ?c8d ?_ ?c8a ?c8b; (case c8a => first | exact rfl | assumption); (case c8b => exact rfl); (case c8F => k_asm); (case c8N => k_asm); (case c8c => exact rfl); (case c8U => k_updF); (case c8d => k_asm); k_whole); intro h_h o_h F_h n_h N_h d_h; (try k_sweep))
  k_with "hdr9 storeName" => ((with_reducible show PySem.wpAny _ _ (PySem.storeName _ _ _) _ _ _); (k_dflt refine' Mine.store_u ?c8F ?c8N ?_ ?c8a ?c8b; (case c8F => k_asm); (case c8N => k_asm); (case c8a => first | exact rfl | assumption); (case c8b => exact rfl); k_whole); intro h_h m_h F_h N_h; (try k_sweep))
  k_with "hdr9 binaryOp" => ((with_reducible show PySem.wpAny _ _ (PySem.binaryOp PySem.Operator.Add (PySem.Value.ref _) (PySem.Value.ref _)) _ _ _); (k_dflt refine' Mine.add_led ?c8hF ?c8hN ?c8h1 ?c8h2 ?c8hz ?_; (case c8hF => k_asm); (case c8hN => k_asm); (case c8h1 => k_mem); (case c8h2 => k_mem); (case c8hz => ((try simp only [List.length_cons, List.length_nil]); first | exact Nat.le_trans (Nat.add_le_add_right (by with_reducible assumption) _) (by decide) | (first | lia | omega)))); intro d_h h_h F_h n_h N_h l_h; (try dsimp only); (try k_fold))
  k_with "hdr9 spliced" => ((with_reducible show PySem.wpAny _ _ (PySem.spliced (PySem.backTo _ (PySem.starEach (_ :: _) _))) _ _ _); (k_dflt refine' Mine.args_ev ?c8o ?c8F ?c8X ?c8T ?c8l ?c8k ?c8v ?_; (case c8o => rfl); (case c8F => k_asm); (case c8X => k_asm); (case c8T => k_asm); (case c8l => first | with_reducible assumption | k_is); (case c8k => first | exact rfl | assumption); (case c8v => k_extra "evk"); k_whole); (try dsimp only [List.nil_append, List.cons_append]))
  k_with "hdr9 pyIter" => with_reducible refine Mine.stop_iter ?_
  k_with "hdr9 newList" => ((with_reducible show PySem.wpAny _ _ (PySem.newList _) _ _ _); (k_dflt refine' Mine.newList_L ?c8F ?c8N ?c8z ?_; (case c8F => k_asm); (case c8N => k_asm); (case c8z => first | exact Nat.le_of_ble_eq_true rfl | size_fits); k_whole); intro l_h h_h F_h n_h N_h a_h; (try k_sweep))
  k_with "hdr9 newTuple" => ((with_reducible show PySem.wpAny _ _ (PySem.newTuple _) _ _ _); (k_dflt refine' Mine.newTuple_L ?c8F ?c8N ?c8z ?_; (case c8F => k_asm); (case c8N => k_asm); (case c8z => first | exact Nat.le_of_ble_eq_true rfl | size_fits); k_whole); intro l_h h_h F_h n_h N_h a_h; (try k_sweep))
  k_with "hdr9 other" => (with_reducible refine Mine.SubQ.go (by with_reducible assumption) ?_; (try dsimp only))
  k_with "hdr9 other" => with_reducible refine Mine.SeqQ.cont (by with_reducible assumption) ?_
  k_with "hdr9 other" => with_reducible refine Mine.SeqQ.brk (by with_reducible assumption) ?_
  k_with "hdr9 other" => with_reducible refine Mine.SeqQ.ret (by with_reducible assumption) ?_
  k_with "hdr9 other" => with_reducible refine Mine.CyQ.out (by with_reducible assumption) (by with_reducible assumption) (by with_reducible assumption) ?_
  k_with "hdr9 other" => ((with_reducible refine Mine.CtQ.both (by with_reducible assumption) (by with_reducible assumption) (by with_reducible assumption) ?_ ?_) <;> intro b_h)
  k_with "hdr9 other" => with_reducible refine Mine.CtQ.no (by with_reducible assumption) (by with_reducible assumption) (by with_reducible assumption) ?_
  k_with "hdr9 other" => with_reducible refine Mine.CtQ.yes (by with_reducible assumption) ?_
  k_with "hdr9 other" => with_reducible refine Mine.SeqQ.next (by with_reducible assumption) ?_
  k_with "hdr9 other" => with_reducible refine Mine.stop_ksw ?_
  k_with "hdr9 other" => with_reducible refine Mine.stop_src ?_
  k_with "hdr9 other" => with_reducible refine Mine.stop_srcT ?_
  k_with "hdr9 other" => with_reducible refine Mine.stop_srcS ?_
  k_with "hdr9 other" => with_reducible refine Mine.stop_end ?_
  k_with "hdr9 other" => with_reducible refine Mine.stop_turn ?_
  k_with "hdr9 other" => with_reducible refine Mine.stop_turnC ?_
  k_with "hdr9 other" => with_reducible refine Mine.TurnP.ret ?_
  k_with "hdr9" => (first | ((with_reducible show PySem.wpAny _ _ _ _ _ _); first | ((with_reducible show PySem.wpAny _ _ (PySem.eval _ _) _ _ _); k_extra "hdr9 eval") | ((with_reducible show PySem.wpAny _ _ (PySem.call _ _ _) _ _ _); k_extra "hdr9 call") | ((with_reducible show PySem.wpAny _ _ (PySem.exec _ _) _ _ _); k_extra "hdr9 exec") | ((with_reducible show PySem.wpAny _ _ (PyProof.Rows.subscriptTail _ _ _ _) _ _ _); k_extra "hdr9 subscriptTail") | ((with_reducible show PySem.wpAny _ _ (PySem.isTrue _ _ _) _ _ _); k_extra "hdr9 isTrue") | ((with_reducible show PySem.wpAny _ _ (PySem.execs _ _) _ _ _); k_extra "hdr9 execs") | ((with_reducible show PySem.wpAny _ _ (PySem.storeName _ _ _) _ _ _); k_extra "hdr9 storeName") | ((with_reducible show PySem.wpAny _ _ (PySem.binaryOp _ _ _) _ _ _); k_extra "hdr9 binaryOp") | ((with_reducible show PySem.wpAny _ _ (PySem.spliced _) _ _ _); k_extra "hdr9 spliced") | ((with_reducible show PySem.wpAny _ _ (PySem.pyIter _) _ _ _); k_extra "hdr9 pyIter") | ((with_reducible show PySem.wpAny _ _ (PySem.newList _) _ _ _); k_extra "hdr9 newList") | ((with_reducible show PySem.wpAny _ _ (PySem.newTuple _) _ _ _); k_extra "hdr9 newTuple") | fail) | ((fail_if_success (with_reducible show PySem.wpAny _ _ _ _ _ _)); k_extra "hdr9 other"))
  k_with "mineS14 subscriptTail" => ((with_reducible show PySem.wpAny _ _ (PyProof.Rows.subscriptTail (PySem.Expr.List _ _) (PySem.Expr.Call _ _ _ _) (PySem.Value.ref _) (PySem.Value.int _ _)) _ _ _); (fail_if_success (fail_if_success (have := (by with_reducible assumption : Mine.Md 14)))); (k_dflt refine' Mine.item_two ?c8ki ?c8kj ?c8k0 ?c8k1 ?_ ?_; (case c8ki => k_asm); (case c8kj => with_reducible exact List.mem_cons_self); (case c8k0 => assumption); (case c8k1 => assumption)); (all_goals (try dsimp only)); (all_goals (try k_fold)))
  k_with "mineS14 binaryOp" => ((with_reducible show PySem.wpAny _ _ (PySem.binaryOp PySem.Operator.Add (PySem.Value.str _ _) (PySem.Value.str _ _)) _ _ _); (fail_if_success (fail_if_success (have := (by with_reducible assumption : Mine.Md 14)))); (refine' Mine.add_bd (by with_reducible assumption) (by first | with_reducible assumption | exact Nat.le_refl 1) (by decide) ?_); intro _ _ _; (try dsimp only))
  k_with "mineS14" => (first | ((with_reducible show PySem.wpAny _ _ _ _ _ _); first | ((with_reducible show PySem.wpAny _ _ (PyProof.Rows.subscriptTail _ _ _ _) _ _ _); k_extra "mineS14 subscriptTail") | ((with_reducible show PySem.wpAny _ _ (PySem.binaryOp _ _ _) _ _ _); k_extra "mineS14 binaryOp") | fail))
  intro w b o sm c al ta rest hB hc hal hoff
  obtain ⟨al0, al10, al200⟩ := hal
  have hmd : Md 14 := Md.on 14
  k_with "call ref" => ((with_reducible show PySem.wpAny _ _ (PySem.call (PySem.Value.ref 434) _ _) _ _ _); k_dflt (refine' Mine.take_use take2_spec ?c7hB ?c7hc ?c7hm ?c7hm2 ?c7k1 ?c7k2 ?c7k3 ?c7k4 ?c7kU ?c7k5 ?c7kK ?c7kd ?c7ku ?_; (case c7k1 => k_asm); (case c7k2 => k_asm); (case c7k3 => k_asm); (case c7k4 => k_asm); (case c7kU => k_updF); (case c7hB => with_reducible assumption); (case c7hc => first | with_reducible assumption | (with_reducible refine Mine.bx1 (by with_reducible assumption) ?_; decide) | (with_reducible refine Mine.bx2 (by with_reducible assumption) ?_; decide) | (with_reducible refine Mine.bx3 (by with_reducible assumption) ?_; decide) | (with_reducible refine Mine.bx4 (by with_reducible assumption) ?_; decide) | (with_reducible refine Mine.bx5 (by with_reducible assumption) ?_; decide) | (with_reducible refine Mine.bx6 (by with_reducible assumption) ?_; decide) | (with_reducible refine Mine.bx7 (by with_reducible assumption) ?_; decide) | (with_reducible refine Int.lt_trans (by with_reducible assumption) ?_; decide) | (first | lia | omega)); (case c7hm => first | decide | (first | lia | omega)); (case c7hm2 => first | decide | (first | lia | omega)); (case c7k5 => k_asm); (case c7kK => first | exact rfl | assumption); (case c7kd => k_room); (case c7ku => k_units)); intro o9 d9 t9 h9 tk9 le9 F9 n9 N9 hB9 hd9 hd9'; (try dsimp only at le9); (try dsimp only at N9); (try dsimp only); (try k_fold))
  unfold Fn
  intro p loose mean mg mb dp un gd cn cs a ccd cl outer A₀ base h₀ L m s Q E B F X N T hk hd hu hret
  refine wpAny_call ?_
  k_dflt (refine' Mine.code_defZ [Str.ofString "box", Str.ofString "alphabet"] ?k1 ?k2 ?k3 ?k4 ?k5 ?kA ?kF ?kK ?k6 ?k7 ?k8 ?k9 ?kB ?_ ?c2 ?c3 ?c4 ?c5; (case kA => exact rfl); (case kF => exact rfl); (case kK => assumption); (case k1 => k_asm); (case k2 => k_asm); (case k3 => k_asm); (case k4 => k_asm); (case k5 => k_asm); (case k6 => k_is); (case k7 => k_is); (case k8 => first | exact Mine.rm0 (by with_reducible assumption) | ktr_room); (case k9 => exact rfl); (case c5 => decide); (case kB => exact rfl); (case c2 => exact rfl); (case c3 => exact rfl); (case c4 => exact rfl); k_whole; intro g' L' h' tk' FG' F' N' B' X' T' e_h A_h; (try k_lift B'); (try k_fold))
  refine Mine.opq ?_
  intro Qr hQr
  have hlocs_h : Mine.Names [Str.ofString "box", Str.ofString "alphabet", Str.ofString "written", Str.ofString "meant", Str.ofString "k", Str.ofString "way", Str.ofString "sign", Str.ofString "low", Str.ofString "high", Str.ofString "front"] := trivial
  have hlen_h := Mine.len_of (by assumption) (by k_is)
  rename Fr _ _ _ _ => F0_h
  replace F0_h : Fr _ _ _ (Mine.lk [(Str.ofString "alphabet", _), (Str.ofString "box", _)]) := F0_h
  k_steps
  refine Stop.go ?_
  rename Fr _ _ _ (fun _ => _) => F1
  k_dflt refine' For_invVF F1 (by rfl) (by rfl) ?_
  k_steps
  refine Stop.go ?_
  have hl7 := (by assumption : _ < _ ∧ AllLt _ rest)
  rename News _ _ _ _ => N1
  have N2 := cb_drop (news := (b, o9) :: (rest ++ [(_, listOf #[] 0)])) N1 (by intro p hp; simp only [List.mem_cons, List.mem_append, List.not_mem_nil, or_false] at hp; rcases hp with rfl | h | rfl; exact .tail _ (.tail _ (.head _)); exact .tail _ (.tail _ (.tail _ h)); exact .tail _ (.head _))
  clear N1
  refine for_range (σ := PaC) (n := (1 + d9).toNat) (fun c => [(Str.ofString "written", Value.str c.wr c.tw), (Str.ofString "meant", Value.ref c.M)]) [Str.ofString "way", Str.ofString "sign", Str.ofString "low", Str.ofString "high", Str.ofString "front"] (PaJ b rest sm (c + 1)) ⟨Str.ofString "", _, _, [], 0, o9, _⟩ (by rfl) (by assumption) (range_ok (by (first | lia | omega)) (by (first | lia | omega)) (by (first | lia | omega)) (by (first | lia | omega))) (by rw [rangeSize_nat]; (first | lia | omega)) (by k_asm) N2 (by kst_all) ⟨rfl, hB9.mono (by (first | lia | omega)), .head _, ⟨[], .nil, .nil, Nat.zero_le _, fun a h => nomatch h⟩, Nat.zero_le _, fun h => absurd rfl h, ?fresh⟩ ?turn ?done
  case fresh =>
    intro p hp q hq
    rw [List.mem_singleton.mp hp]
    rcases List.mem_cons.mp hq with rfl | hq
    · exact hl7.1
    · exact lt_of_allLt hl7.2 q hq
  case turn =>
    rintro i v ⟨wr, tw, M, vs, k, o2, ex⟩ nx u h7 tk7 own hi ⟨tv, rfl⟩ ⟨rfl, hB2, hM, ⟨ms, hP, hC, hml, hm2⟩, hwl, hwn, hFr⟩ hoff7 F7 N7
    dsimp only at F7 N7 hB2 hM hP hC hwl hwn hFr hoff7
    simp only [List.cons_append] at N7
    have hvl := Chs.length hC
    have hcb := pa_bd hc hd9' hi
    have hv9 := pa_vs hd9' hi hml hvl
    clear hwn
    have h92 : (Str.ofString "\\").length ≤ 1 := by decide +kernel
    have h45 : (Str.ofString "-").length ≤ 1 := by decide +kernel
    have h00 : (Str.ofString "").length ≤ 1 := by decide +kernel
    have hwl9 : wr.length ≤ 9 := by (first | lia | omega)
    have hown : ∀ p ∈ own, p.1 ≠ b := fun p hp => hoff7 p hp _ (List.mem_map.mpr ⟨_, .head _, rfl⟩)
    k_steps
    · skip
      refine Stop.go ?_
      have hA9 := (by assumption : _ < _ ∧ _ < _ ∧ _ < _ ∧ AllLt _ (rest ++ ex ++ own))
      rename Fr _ _ _ _ => F0
      rename News _ _ _ _ => N0
      refine pa_turn F0 N0 (by k_mem) (by k_mem) (by k_extra "subw") (by k_extra "subw") hA9.2.2.2 hoff7 (by kst_all) (by kst_same) (paJ_step hP hC hml hm2 hwl (.esc _) (wr_esc _ _) chs_one (by simp) (fun a ha => by rw [List.mem_singleton.mp ha]; exact al200 _ (by assumption)) (by assumption) (by (first | lia | omega)) hA9.2.2.1 hA9.2.2.2)
    · skip
      refine Mine.hideG ?_; intro gP_h hG_h; obtain ⟨hlo8, hhi8⟩ := al_two (by assumption) (by assumption) (by assumption); refine hG_h ?_; (try clear hG_h)
      refine Stop.go ?_
      have hA9 := (by assumption : _ < _ ∧ _ < _ ∧ _ < _ ∧ _ < _ ∧ _ < _ ∧ AllLt _ (rest ++ ex ++ own))
      rename Fr _ _ _ _ => F0
      rename News _ _ _ _ => N0
      refine pa_turn F0 N0 (by k_mem) (by k_mem) (by k_extra "subw") (by k_extra "subw") hA9.2.2.2.2.2 hoff7 (by kst_all) (by kst_same) (paJ_step hP hC hml hm2 hwl (.esc _) (wr_esc _ _) chs_one (by simp) (fun a ha => by rw [List.mem_singleton.mp ha]; exact al200 _ (by assumption)) (by assumption) (by (first | lia | omega)) hA9.2.2.2.2.1 hA9.2.2.2.2.2)
    · skip
      refine Mine.hideG ?_; intro gP_h hG_h; obtain ⟨lo, hh, e1, e2, hlo8, hhi8⟩ := al_two' (by assumption) (by assumption) (by assumption); refine hG_h ?_; (try clear hG_h)
      subst e1 e2
      have hlo7 := al200 _ hlo8
      have hhi7 := al200 _ hhi8
      have hlh := (by assumption : lo ≤ hh)
      refine Mine.hideG ?_; intro gP_h hG_h; obtain ⟨x92, x45, x94⟩ := not3 (c := lo) (by assumption); refine hG_h ?_; (try clear hG_h)
      refine Stop.go ?_
      k_dflt (refine LCg.ListComp_U (F₀ := by k_asm) (by rfl) (by decide) (by rfl) (by decide) (by rfl) ?_)
      k_steps
      refine Stop.go ?_
      refine LCg.CompSrc.range (n := hh + 1 - lo) (by rfl) (by k_asm) (by k_asm) (by assumption) (range_ok (by (first | lia | omega)) (by (first | lia | omega)) (by (first | lia | omega)) (by (first | lia | omega))) (by rw [rangeSize_nat]; (first | lia | omega)) (by rw [PySem.sizeLine_eq]; (first | lia | omega)) ?_
      intro g'
      refine restU_fix (fun i ys => Chs ys ((rangeL lo hh).take i)) .nil ?_ ?_
      · intro i ys v I oI C oC D m₂ h tk E' hi hJ hP hC hx F N off ne
        refine Mine.hideG ?_; intro gP_h hG_h; obtain ⟨t9, rfl⟩ := hP; refine hG_h ?_; (try clear hG_h)
        k_steps
        refine Stop.go ?_
        refine LCg.CompEnd.intro (by k_asm) (by k_asm) _ (by intro p hp; exact hp) off trivial ⟨rfl, ?_⟩
        exact hJ.step (c := lo + i) (rangeL_get hi)
      · intro ys hys
        rw [List.take_of_length_le (by rw [rangeL_len]; (first | lia | omega))] at hys
        intro D8 h8 tk8 F8 N8 o8
        have hl9 := Chs.length hys
        rw [rangeL_len] at hl9
        k_steps
        refine Stop.go ?_
        have hA9 := (by assumption : _ < _ ∧ _ < _ ∧ _ < _ ∧ _ < _ ∧ _ < _ ∧ AllLt _ (rest ++ ex ++ own))
        rename Fr _ _ _ _ => F0
        rename News _ _ _ _ => N0
        refine pa_turn F0 N0 (by k_mem) (by k_mem) (by k_extra "subw") (by k_extra "subw") hA9.2.2.2.2.2 hoff7 (by kst_all) (by kst_same) (paJ_step hP hC hml hm2 hwl (.rng _ _ x92 x45 x94 hlh (by (first | lia | omega))) (wr_rng _ _ _) hys (by rw [rangeL_len]; (first | lia | omega)) (fun a ha => by have := rangeL_lt a ha; (first | lia | omega)) (by assumption) (by (first | lia | omega)) hA9.2.2.2.2.1 hA9.2.2.2.2.2)
    · skip
      refine Mine.hideG ?_; intro gP_h hG_h; obtain ⟨hlo8, hhi8⟩ := al_two (by assumption) (by assumption) (by assumption); refine hG_h ?_; (try clear hG_h)
      refine Stop.go ?_
      have hA9 := (by assumption : _ < _ ∧ _ < _ ∧ _ < _ ∧ _ < _ ∧ _ < _ ∧ AllLt _ (rest ++ ex ++ own))
      rename Fr _ _ _ _ => F0
      rename News _ _ _ _ => N0
      refine pa_turn F0 N0 (by k_mem) (by k_mem) (by k_extra "subw") (by k_extra "subw") hA9.2.2.2.2.2 hoff7 (by kst_all) (by kst_same) (paJ_step hP hC hml hm2 hwl (.esc _) (wr_esc _ _) chs_one (by simp) (fun a ha => by rw [List.mem_singleton.mp ha]; exact al200 _ (by assumption)) (by assumption) (by (first | lia | omega)) hA9.2.2.2.2.1 hA9.2.2.2.2.2)
    · skip
      refine Mine.hideG ?_; intro gP_h hG_h; obtain ⟨hlo8, hhi8⟩ := al_two (by assumption) (by assumption) (by assumption); refine hG_h ?_; (try clear hG_h)
      refine Stop.go ?_
      have hA9 := (by assumption : _ < _ ∧ _ < _ ∧ _ < _ ∧ _ < _ ∧ _ < _ ∧ AllLt _ (rest ++ ex ++ own))
      rename Fr _ _ _ _ => F0
      rename News _ _ _ _ => N0
      refine pa_turn F0 N0 (by k_mem) (by k_mem) (by k_extra "subw") (by k_extra "subw") hA9.2.2.2.2.2 hoff7 (by kst_all) (by kst_same) (paJ_step hP hC hml hm2 hwl (.esc _) (wr_esc _ _) chs_one (by simp) (fun a ha => by rw [List.mem_singleton.mp ha]; exact al200 _ (by assumption)) (by assumption) (by (first | lia | omega)) hA9.2.2.2.2.1 hA9.2.2.2.2.2)
    · skip
      refine Mine.hideG ?_; intro gP_h hG_h; obtain ⟨x92, x45, x94⟩ := not3 (by assumption); refine hG_h ?_; (try clear hG_h)
      refine Stop.go ?_
      have hA9 := (by assumption : _ < _ ∧ _ < _ ∧ _ < _ ∧ _ < _ ∧ AllLt _ (rest ++ ex ++ own))
      rename Fr _ _ _ _ => F0
      rename News _ _ _ _ => N0
      refine pa_turn F0 N0 (by k_mem) (by k_mem) (by k_extra "subw") (by k_extra "subw") hA9.2.2.2.2 hoff7 (by kst_all) (by kst_same) (paJ_step hP hC hml hm2 hwl (.one _ x92 x45 x94) (wr_one _ _) chs_one (by simp) (fun a ha => by rw [List.mem_singleton.mp ha]; exact al200 _ (by assumption)) (by assumption) (by (first | lia | omega)) hA9.2.2.2.1 hA9.2.2.2.2)
    · skip
      refine Mine.hideG ?_; intro gP_h hG_h; obtain ⟨x92, x45, x94⟩ := not3 (by assumption); refine hG_h ?_; (try clear hG_h)
      refine Stop.go ?_
      have hA9 := (by assumption : _ < _ ∧ _ < _ ∧ _ < _ ∧ _ < _ ∧ AllLt _ (rest ++ ex ++ own))
      rename Fr _ _ _ _ => F0
      rename News _ _ _ _ => N0
      refine pa_turn F0 N0 (by k_mem) (by k_mem) (by k_extra "subw") (by k_extra "subw") hA9.2.2.2.2 hoff7 (by kst_all) (by kst_same) (paJ_step hP hC hml hm2 hwl (.esc _) (wr_esc _ _) chs_one (by simp) (fun a ha => by rw [List.mem_singleton.mp ha]; exact al200 _ (by assumption)) (by assumption) (by (first | lia | omega)) hA9.2.2.2.1 hA9.2.2.2.2)
    · skip
      refine Stop.go ?_
      have hA9 := (by assumption : _ < _ ∧ _ < _ ∧ _ < _ ∧ AllLt _ (rest ++ ex ++ own))
      rename Fr _ _ _ _ => F0
      rename News _ _ _ _ => N0
      refine pa_turn F0 N0 (by k_mem) (by k_mem) (by k_extra "subw") (by k_extra "subw") hA9.2.2.2 hoff7 (by kst_all) (by kst_same) (paJ_step hP hC hml hm2 hwl (.esc _) (wr_esc _ _) chs_one (by simp) (fun a ha => by rw [List.mem_singleton.mp ha]; exact al200 _ (by assumption)) (by assumption) (by (first | lia | omega)) hA9.2.2.1 hA9.2.2.2)
  case done =>
    rintro ⟨wr, tw, M, vs, k, o2, ex⟩ nx u h7 tk7 ⟨rfl, hB2, hM, ⟨ms, hP, hC, hml, hm2⟩, hwl, hwn, hFr⟩ F7 N7
    dsimp only at F7 N7 hB2 hM hP hC hwl hwn hFr
    k_steps
    have hA9 := (by assumption : _ < _ ∧ AllLt _ (rest ++ ex))
    have hn9 : (1 + d9).toNat ≤ 3 := by (first | lia | omega)
    refine hret _ _ _ _ (by k_asm) (cb_drop (news := (b, o2) :: (rest ++ ((_, tup2O wr tw M) :: ex))) (by k_asm) ?_) ⟨_, _, rfl, ?_, hB2.mono (by (first | lia | omega)), _, wr, tw, M, vs, k, ms, rfl, .head _, .tail _ hM, hP, hC, by (first | lia | omega), hm2, by (first | lia | omega), hwn (by (first | lia | omega))⟩
    · exact by k_extra "subw"
    · intro p hp q hq
      rcases List.mem_cons.mp hp with rfl | hp
      · rcases List.mem_cons.mp hq with rfl | hq
        · exact hA9.1
        · exact lt_of_allLt hA9.2 q (List.mem_append_left _ hq)
      · rcases List.mem_cons.mp hq with rfl | hq
        · exact hFr p hp (b, o2) (.head _)
        · exact hFr p hp q (.tail _ hq)
end
section
theorem set_spec : SetS Mine.hd.heap_1 := by
  intro w b o sm c al ta rest hB hc hal hoff
  k_with "call ref" => ((with_reducible show PySem.wpAny _ _ (PySem.call (PySem.Value.ref 434) _ _) _ _ _); k_dflt (refine' Mine.take_use take2_spec ?c7hB ?c7hc ?c7hm ?c7hm2 ?c7k1 ?c7k2 ?c7k3 ?c7k4 ?c7kU ?c7k5 ?c7kK ?c7kd ?c7ku ?_; (case c7k1 => k_asm); (case c7k2 => k_asm); (case c7k3 => k_asm); (case c7k4 => k_asm); (case c7kU => k_updF); (case c7hB => with_reducible assumption); (case c7hc => first | with_reducible assumption | (with_reducible refine Mine.bx1 (by with_reducible assumption) ?_; decide) | (with_reducible refine Mine.bx2 (by with_reducible assumption) ?_; decide) | (with_reducible refine Mine.bx3 (by with_reducible assumption) ?_; decide) | (with_reducible refine Mine.bx4 (by with_reducible assumption) ?_; decide) | (with_reducible refine Mine.bx5 (by with_reducible assumption) ?_; decide) | (with_reducible refine Mine.bx6 (by with_reducible assumption) ?_; decide) | (with_reducible refine Mine.bx7 (by with_reducible assumption) ?_; decide) | (with_reducible refine Int.lt_trans (by with_reducible assumption) ?_; decide) | (first | lia | omega)); (case c7hm => first | decide | (first | lia | omega)); (case c7hm2 => first | decide | (first | lia | omega)); (case c7k5 => k_asm); (case c7kK => first | exact rfl | assumption); (case c7kd => k_room); (case c7ku => k_units)); intro o9 d9 t9 h9 tk9 le9 F9 n9 N9 hB9 hd9 hd9'; (try dsimp only at le9); (try dsimp only at N9); (try dsimp only); (try k_fold))
  k_with "call ref" => ((with_reducible show PySem.wpAny _ _ (PySem.call (PySem.Value.ref 451) _ _) _ _ _); k_dflt (refine' Mine.parts_use parts_spec ?c7hB ?c7hc ?c7hal ?c7k1 ?c7k2 ?c7k3 ?c7k4 ?c7kU ?c7k5 ?c7kK ?c7kd ?c7ku ?_; (case c7k1 => k_asm); (case c7k2 => k_asm); (case c7k3 => k_asm); (case c7k4 => k_asm); (case c7kU => k_updF); (case c7hB => with_reducible assumption); (case c7hc => first | with_reducible assumption | (with_reducible refine Mine.bx1 (by with_reducible assumption) ?_; decide) | (with_reducible refine Mine.bx2 (by with_reducible assumption) ?_; decide) | (with_reducible refine Mine.bx3 (by with_reducible assumption) ?_; decide) | (with_reducible refine Mine.bx4 (by with_reducible assumption) ?_; decide) | (with_reducible refine Mine.bx5 (by with_reducible assumption) ?_; decide) | (with_reducible refine Mine.bx6 (by with_reducible assumption) ?_; decide) | (with_reducible refine Mine.bx7 (by with_reducible assumption) ?_; decide) | (with_reducible refine Int.lt_trans (by with_reducible assumption) ?_; decide) | (first | lia | omega)); (case c7hal => with_reducible assumption); (case c7k5 => k_asm); (case c7kK => first | exact rfl | assumption); (case c7kd => k_room); (case c7ku => k_units)); intro r9 o9 ex9 h9 tk9 le9 F9 N9 hF9 P9; refine Mine.hideG ?_; intro gP_h hG_h; obtain ⟨hB9, T9, wr9, tw9, M9, vs9, k9, ms9, rfl, hT9, hM9, hP9, hC9, hml9, hm29, hw9, hw09⟩ := P9; refine hG_h ?_; clear hG_h; (try simp only [List.cons_append] at N9); (try dsimp only at N9); (try dsimp only); (try k_fold))
  unfold Fn
  intro p loose mean mg mb dp un gd cn cs a ccd cl outer A₀ base h₀ L m s Q E B F X N T hk hd hu hret
  refine wpAny_call ?_
  k_dflt (refine' Mine.code_defZ [Str.ofString "box", Str.ofString "alphabet"] ?k1 ?k2 ?k3 ?k4 ?k5 ?kA ?kF ?kK ?k6 ?k7 ?k8 ?k9 ?kB ?_ ?c2 ?c3 ?c4 ?c5; (case kA => exact rfl); (case kF => exact rfl); (case kK => assumption); (case k1 => k_asm); (case k2 => k_asm); (case k3 => k_asm); (case k4 => k_asm); (case k5 => k_asm); (case k6 => k_is); (case k7 => k_is); (case k8 => first | exact Mine.rm0 (by with_reducible assumption) | ktr_room); (case k9 => exact rfl); (case c5 => decide); (case kB => exact rfl); (case c2 => exact rfl); (case c3 => exact rfl); (case c4 => exact rfl); k_whole; intro g' L' h' tk' FG' F' N' B' X' T' e_h A_h; (try k_lift B'); (try k_fold))
  refine Mine.opq ?_
  intro Qr hQr
  have hlocs_h : Mine.Names [Str.ofString "box", Str.ofString "alphabet", Str.ofString "written", Str.ofString "meant"] := trivial
  have hlen_h := Mine.len_of (by assumption) (by k_is)
  rename Fr _ _ _ _ => F0_h
  replace F0_h : Fr _ _ _ (Mine.lk [(Str.ofString "alphabet", _), (Str.ofString "box", _)]) := F0_h
  k_steps
  · have hA9 := (by assumption : _ < _ ∧ AllLt _ (rest ++ ex9))
    rename News _ _ _ _ => kN9
    refine hret _ _ _ _ (by k_asm) (news_mid kN9) ⟨_, _, rfl, fresh_cons hA9.1 hA9.2 hF9, hB9.mono (by (first | lia | omega)), _, _, _, _, _, _, _, _, rfl, .head _, .tail _ hM9, hC9, ?_, ?_⟩
    · exact telx_turned hP9 hml9 hm29 hw9 hw09
    · have := hw9; rw [Str.length_append, show (Str.ofString "^").length = 1 by decide +kernel]; (first | lia | omega)
  · have hA9 := (by assumption : _ < _ ∧ AllLt _ (rest ++ ex9))
    rename News _ _ _ _ => kN9
    refine hret _ _ _ _ (by k_asm) (news_mid kN9) ⟨_, _, rfl, fresh_cons hA9.1 hA9.2 hF9, hB9.mono (by (first | lia | omega)), _, _, _, _, _, _, _, _, rfl, .head _, .tail _ hM9, hC9, ?_, by (first | lia | omega)⟩
    · exact telx_plain hP9 hml9 hm29 hw9
end
section
theorem drawn_spec : DrawnS Mine.hd.heap_1 := by
  intro w b o sm c al ta many tm rest hB hc hal hm hm' hoff
  obtain ⟨al0, al10, al200⟩ := id hal
  k_with "call ref" => ((with_reducible show PySem.wpAny _ _ (PySem.call (PySem.Value.ref 434) _ _) _ _ _); k_dflt (refine' Mine.take_use take2_spec ?c7hB ?c7hc ?c7hm ?c7hm2 ?c7k1 ?c7k2 ?c7k3 ?c7k4 ?c7kU ?c7k5 ?c7kK ?c7kd ?c7ku ?_; (case c7k1 => k_asm); (case c7k2 => k_asm); (case c7k3 => k_asm); (case c7k4 => k_asm); (case c7kU => k_updF); (case c7hB => with_reducible assumption); (case c7hc => first | with_reducible assumption | (with_reducible refine Mine.bx1 (by with_reducible assumption) ?_; decide) | (with_reducible refine Mine.bx2 (by with_reducible assumption) ?_; decide) | (with_reducible refine Mine.bx3 (by with_reducible assumption) ?_; decide) | (with_reducible refine Mine.bx4 (by with_reducible assumption) ?_; decide) | (with_reducible refine Mine.bx5 (by with_reducible assumption) ?_; decide) | (with_reducible refine Mine.bx6 (by with_reducible assumption) ?_; decide) | (with_reducible refine Mine.bx7 (by with_reducible assumption) ?_; decide) | (with_reducible refine Int.lt_trans (by with_reducible assumption) ?_; decide) | (first | lia | omega)); (case c7hm => first | decide | (first | lia | omega)); (case c7hm2 => first | decide | (first | lia | omega)); (case c7k5 => k_asm); (case c7kK => first | exact rfl | assumption); (case c7kd => k_room); (case c7ku => k_units)); intro o9 d9 t9 h9 tk9 le9 F9 n9 N9 hB9 hd9 hd9'; (try dsimp only at le9); (try dsimp only at N9); (try dsimp only); (try k_fold))
  unfold Fn
  intro p loose mean mg mb dp un gd cn cs a ccd cl outer A₀ base h₀ L m s Q E B F X N T hk hd hu hret
  refine wpAny_call ?_
  k_dflt (refine' Mine.code_defCL [Str.ofString "box", Str.ofString "alphabet", Str.ofString "many"] [(Str.ofString "many", _)] (fun L' => [(L' + 1 + 1, some (.str al ta)), (L' + 1, some (.ref b))]) ?k1 ?k2 ?k3 ?k4 ?k5 ?kA ?kF ?kK ?k6 ?k7 ?k8 ?k9 ?kB ?kD ?kE ?kG ?_ ?c2 ?c3 ?c4; (case kA => exact rfl); (case kF => exact rfl); (case kK => assumption); (case k1 => k_asm); (case k2 => k_asm); (case k3 => k_asm); (case k4 => k_asm); (case k5 => k_asm); (case k6 => k_is); (case k7 => k_is); (case k8 => first | exact Mine.rm0 (by with_reducible assumption) | ktr_room); (case k9 => exact rfl); (case kB => exact rfl); (case kD => decide +kernel); (case kE => exact rfl); (case kG => exact fun _ => rfl); (case c2 => exact rfl); (case c3 => exact rfl); (case c4 => exact rfl); k_whole; intro g' L' h' tk' FG' F' B' X' T' l1 o' d1' o2' d2' N' e_h A_h; (try k_lift B'); (try k_fold))
  refine Mine.opq ?_
  intro Qr hQr
  have hlocs_h : Mine.Names [Str.ofString "many"] := trivial
  have hlen_h := Mine.len_of (by assumption) (by k_is)
  rename Fr _ _ _ _ => F0_h
  replace F0_h : Fr _ _ _ (Mine.lk [(Str.ofString "many", _)]) := F0_h
  k_steps
  refine Stop.go ?_
  k_dflt (refine comp_tok (_F₀ := by k_asm) (by with_unfolding_all rfl) (by decide) (by rfl) (by decide) (by rfl) (by rfl) ?_)
  k_steps
  rename News _ _ _ _ => N1
  refine SrcT.draw (al := al) (by k_asm) N1 (by assumption) hd9 (by (first | lia | omega)) hB9 (by dsimp only at *; (first | lia | omega)) ?turn ?fin
  case turn =>
    intro g9
    unfold TurnT
    rintro i ys nw t I oI C oC D m₂ h tk E' hi ⟨o2, l, rfl, hB2, hC2, hl2, hal2, hu2, h02⟩ hC hx F N off ne
    have off' := off
    simp only [LCg.Off3] at off'
    have hi' : (i : Int) < 100 := dr_i hi (by assumption) (by assumption)
    have hcb := dr_bd hc hi'
    k_steps
    have le9 := (by assumption : _ ≤ tk9)
    (try dsimp only at le9)
    exact EndT.intro (by k_asm) (by k_asm) (show LCg.Off3 _ _ _ (_ :: _ :: (b, o9) :: rest) from off) (DrJ.step hC2 hl2 hal2 hu2 hB9 (by assumption) (Nat.lt_of_lt_of_le (Nat.succ_pos _) (by assumption)) (Nat.lt_succ_self _) (Nat.le_succ_of_le (Nat.le_trans (Nat.le_add_right _ 2) (by assumption))))
  case fin =>
    rintro ys nw D h' tk ⟨o2, l, rfl, hB2, hC2, hl2, hal2, hu2, h02⟩ F N o1
    have hle : l.length ≤ 100000 := by (first | lia | omega)
    k_steps
    exact hret _ _ _ _ (by k_asm) (cb_drop (news := (b, o2) :: rest) (by k_asm) (fun p hp => .tail _ (.tail _ (.tail _ hp)))) ⟨_, rfl, hB2.mono (by (first | lia | omega)), l, _, rfl, by (first | lia | omega), hal2, by assumption, by assumption⟩
end
section
local macro_rules | `(tactic| k_all) => `(tactic| first | k_extra "k_allS17" | k_extra "k_all9")
local macro_rules | `(tactic| k_mem) => `(tactic| first | k_extra "k_memS17" | k_extra "k_mem9")
local macro_rules | `(tactic| walk1) => `(tactic| first | k_extra "mineS17" | k_extra "hdr9")
theorem setsright_spec : SetsRightS Mine.hd.heap_1 := by
  k_with_none
  k_with "memw" => first | with_reducible exact List.mem_cons_self | (with_reducible refine List.mem_cons_of_mem _ ?_; k_extra "memw") | with_reducible assumption | (with_reducible refine List.mem_append_left _ ?_; k_extra "memw") | (with_reducible refine List.mem_append_right _ ?_; k_extra "memw")
  k_with "sufw" => first | with_reducible exact Mine.sb_refl | with_reducible assumption | (with_reducible refine Mine.sb_tail ?_; k_extra "sufw") | (with_reducible refine Mine.sb_left ?_; k_extra "sufw") | (with_reducible refine Mine.sb_right ?_; k_extra "sufw")
  k_with "subw" => first | k_extra "sufw" | with_reducible exact Mine.sb_nil | (with_reducible refine Mine.sb_cons ?_ ?_; (k_extra "memw"); (k_extra "subw")) | (with_reducible refine Mine.sb_app ?_ ?_; (k_extra "subw"); (k_extra "subw"))
  k_with "inn" => first | with_reducible exact Mine.InN.here | (with_reducible refine Mine.InN.there ?_; k_extra "inn")
  k_with "alln" => first | with_reducible exact Mine.AllN.nil | (with_reducible refine Mine.AllN.co ?_; k_extra "alln") | (with_reducible refine Mine.AllN.nm ?_ ?_; (k_extra "inn"); (k_extra "alln"))
  k_with "evk" => first | ((with_reducible show Mine.Evs _ _ _ _ _ _); first | ((with_reducible apply Mine.Evs.at4 (by with_reducible assumption)); (k_extra "alln"); exact And.intro rfl rfl) | (with_reducible apply Mine.Evs.cons <;> k_extra "evk")) | ((with_reducible show Mine.Ev _ _ (PySem.Expr.Name _ _) _ _ _); (with_reducible apply Mine.Ev.at4 (by with_reducible assumption)); (k_extra "alln"); exact And.intro rfl rfl) | ((with_reducible show Mine.Ev _ _ (PySem.Expr.Constant _ _ _) _ _ _); exact Mine.Ev.atK (And.intro rfl rfl)) | (with_reducible apply Mine.Ev.add <;> k_extra "evk") | (with_reducible apply Mine.Ev.sub <;> k_extra "evk") | (with_reducible apply Mine.Ev.mul <;> first | k_extra "evk" | (try dsimp only; mul_fits)) | (with_reducible apply Mine.Ev.len; exact rfl; k_extra "evk"; first | with_reducible assumption | exact Nat.le_trans (by with_reducible assumption) (by decide) | omega) | exact Mine.EvO.no | (with_reducible apply Mine.EvO.so; k_extra "evk")
  k_with "k_size9" => (simp only [Array.size_push, List.size_toArray, List.length_cons, List.length_nil, List.length_append, List.nil_append, Array.size_empty, List.push_toArray]; first | decide | (first | lia | omega))
  k_with "top_raise09" => ((repeat (first | exact Mine.NeC.here | exact Mine.NeC.last | refine Mine.NeC.there ?_)); done)
  k_with "k_ne9" => ((try dsimp only); first | with_reducible assumption | exact Nat.succ_ne_self _ | exact (Nat.succ_ne_self _).symm | exact Nat.ne_of_lt (by with_reducible assumption) | exact Nat.ne_of_gt (by with_reducible assumption) | exact Mine.al0 (by with_reducible assumption) (by k_extra "memw") | exact Mine.au0 (by with_reducible assumption) (by k_extra "memw") | exact Mine.al1 (by with_reducible assumption) (by k_extra "memw") | exact Mine.al2 (by with_reducible assumption) (by k_extra "memw") | exact Mine.al3 (by with_reducible assumption) (by k_extra "memw") | exact Mine.al4 (by with_reducible assumption) (by k_extra "memw") | exact Mine.al5 (by with_reducible assumption) (by k_extra "memw") | exact Mine.au1 (by with_reducible assumption) (by k_extra "memw") | exact Mine.au2 (by with_reducible assumption) (by k_extra "memw") | exact Mine.au3 (by with_reducible assumption) (by k_extra "memw") | exact Mine.au4 (by with_reducible assumption) (by k_extra "memw") | exact Mine.au5 (by with_reducible assumption) (by k_extra "memw") | exact Mine.of0 (by with_reducible assumption) (by k_extra "memw") | exact Mine.of1 (by with_reducible assumption) (by k_extra "memw") | exact Mine.o1a (by with_reducible assumption) (by k_extra "memw") | exact Mine.o1b (by with_reducible assumption) (by k_extra "memw") | exact Mine.o3I (by with_reducible assumption) (by k_extra "memw") | exact Mine.o3C (by with_reducible assumption) (by k_extra "memw") | exact Mine.o3D (by with_reducible assumption) (by k_extra "memw") | exact Mine.o3i (by with_reducible assumption) (by k_extra "memw") | exact Mine.o3c (by with_reducible assumption) (by k_extra "memw") | exact Mine.o3d (by with_reducible assumption) (by k_extra "memw") | exact Mine.n3a (by with_reducible assumption) | exact Mine.n3b (by with_reducible assumption) | exact Mine.n3c (by with_reducible assumption) | exact Mine.n3d (by with_reducible assumption) | exact Mine.n3e (by with_reducible assumption) | exact Mine.n3f (by with_reducible assumption) | ((first | lia | omega)))
  k_with "k_room9" => first | exact Mine.rm0 (by with_reducible assumption) | exact Mine.rm1 (by with_reducible assumption) (by decide) | exact Mine.rm2 (by with_reducible assumption) (by decide) | decide | ktr_room
  k_with "k_units9" => first | exact Mine.rm0 (by with_reducible assumption) | exact Mine.rm1 (by with_reducible assumption) (by decide) | exact Mine.rm2 (by with_reducible assumption) (by decide) | decide | ktr_units
  k_with "k_all9" => first | with_reducible assumption | exact Mine.as0 (by with_reducible assumption) (by k_extra "subw") | exact Mine.as1 (by with_reducible assumption) (by k_extra "subw") | exact Mine.as2 (by with_reducible assumption) (by k_extra "subw") | exact Mine.as3 (by with_reducible assumption) (by k_extra "subw") | exact Mine.as4 (by with_reducible assumption) (by k_extra "subw") | exact Mine.as5 (by with_reducible assumption) (by k_extra "subw") | (with_reducible refine Mine.off_app ?_ ?_ <;> k_all) | exact Mine.ne_fresh2 (by assumption) (by k_extra "memw") | assumption | exact Mine.ne_of_allLt (by assumption) (by first | exact Nat.le_refl _ | exact Nat.le_succ _ | (first | lia | omega)) | exact Mine.ne_of_lt (by assumption) (by first | exact Nat.le_refl _ | exact Nat.le_succ _ | exact Nat.le_add_right _ 2 | exact Nat.le_add_right _ 3 | (first | lia | omega))
  k_with "k_updF9" => ((with_reducible refine' Mine.updF_app ?c8a ?c8b); (case c8b => k_all); (case c8a => k_updF))
  k_with "k_upd9" => ((with_reducible refine' Mine.upd_app ?c8a ?c8b); (case c8b => k_all); (case c8a => k_upd))
  k_with "k_mem9" => first | k_extra "memw" | exact List.mem_cons_self | ktr_member
  k_with "ksw_same9" => (intro z h2 h3; (repeat' (with_reducible refine Mine.if_skip ?_ ?_)); (all_goals (first | exact Mine.kst_keep' h2 h3 rfl | (have h4 := h2 _ (.head _); exact h4) | (have h4 := h2 _ (.tail _ (.head _)); exact h4) | (have h4 := h2 _ (.tail _ (.tail _ (.head _))); exact h4) | exact Mine.ne_stored h3 (by simp))))
  k_with "kst_same9" => (intro z h1 h2 h3; (repeat' (with_reducible refine Mine.if_skip ?_ ?_)); (all_goals (first | exact h1 | exact Mine.kst_keep' h2 h3 rfl | (have h4 := h2 _ (.head _); exact h4) | (have h4 := h2 _ (.tail _ (.head _)); exact h4) | (have h4 := h2 _ (.tail _ (.tail _ (.head _))); exact h4) | exact Mine.ne_stored h3 (by simp))))
  k_with "hdr9 eval" => with_reducible refine Mine.stop_comp ?_
  k_with "hdr9 eval" => ((with_reducible show PySem.wpAny _ _ (PySem.eval (PySem.Expr.BinOp _ _ _ _) _) _ _ _); (first | (k_dflt refine' Mine.ev_val ?c8o ?c8F ?c8X ?c8T ?c8l ?c8k ?c8v ?_; (case c8o => rfl); (case c8F => k_asm); (case c8X => k_asm); (case c8T => k_asm); (case c8l => first | with_reducible assumption | k_is); (case c8k => first | exact rfl | assumption); (case c8v => k_extra "evk"); k_whole) | (k_dflt refine' Mine.binop_ev ?c8o ?c8F ?c8X ?c8T ?c8l ?c8k ?c8v ?c8u ?_; (case c8o => rfl); (case c8F => k_asm); (case c8X => k_asm); (case c8T => k_asm); (case c8l => first | with_reducible assumption | k_is); (case c8k => first | exact rfl | assumption); (case c8v => k_extra "evk"); (case c8u => k_extra "evk"); k_whole)))
  k_with "hdr9 eval" => ((with_reducible show PySem.wpAny _ _ (PySem.eval (PySem.Expr.Call (PySem.Expr.Name _ _) (_ :: _) [] _) _) _ _ _); (first | (k_dflt refine' Mine.call_ev ?c8o ?c8F ?c8X ?c8T ?c8e ?c8l ?c8g ?c8k ?c8f ?c8d ?c8v ?c8p ?_; (case c8o => rfl); (case c8F => k_asm); (case c8X => k_asm); (case c8T => k_asm); (case c8l => first | with_reducible assumption | k_is); (case c8k => first | exact rfl | assumption); (case c8v => k_extra "evk"); (case c8f => exact rfl); (case c8d => decide); (case c8e => k_is); (case c8g => k_is); (case c8p => exact rfl); k_whole) | (k_dflt refine' Mine.callb_ev ?c8o ?c8F ?c8X ?c8T ?c8e ?c8b ?c8n ?c8l ?c8k ?c8f ?c8d ?c8v ?c8p ?_; (case c8o => rfl); (case c8F => k_asm); (case c8X => k_asm); (case c8T => k_asm); (case c8l => first | with_reducible assumption | k_is); (case c8k => first | exact rfl | assumption); (case c8v => k_extra "evk"); (case c8f => exact rfl); (case c8d => decide); (case c8e => k_is); (case c8b => boot_fast); (case c8n => decide); (case c8p => exact rfl); k_whole)))
  k_with "hdr9 eval" => ((with_reducible show PySem.wpAny _ _ (PySem.eval (PySem.Expr.Compare _ [_] [_] _) _) _ _ _); (k_dflt refine' Mine.cmp_ev ?c8o ?c8F ?c8X ?c8T ?c8l ?c8k ?c8v ?c8u ?c8b ?_; (case c8o => rfl); (case c8F => k_asm); (case c8X => k_asm); (case c8T => k_asm); (case c8l => first | with_reducible assumption | k_is); (case c8k => first | exact rfl | assumption); (case c8v => k_extra "evk"); (case c8u => k_extra "evk"); (case c8b => with_unfolding_all rfl); k_whole))
  k_with "hdr9 eval" => ((with_reducible show PySem.wpAny _ _ (PySem.eval (PySem.Expr.Slice _ _ none _) _) _ _ _); (fail_if_success (have := (by with_reducible assumption : Mine.Md 9))); (fail_if_success (have := (by with_reducible assumption : Mine.Md 22))); (k_dflt refine' Mine.slice_ev ?c8o ?c8F ?c8X ?c8T ?c8l ?c8k ?c8v ?c8u ?_; (case c8o => rfl); (case c8F => k_asm); (case c8X => k_asm); (case c8T => k_asm); (case c8l => first | with_reducible assumption | k_is); (case c8k => first | exact rfl | assumption); (case c8v => k_extra "evk"); (case c8u => k_extra "evk"); k_whole))
  k_with "hdr9 eval" => ((with_reducible show PySem.wpAny _ _ (PySem.eval (PySem.Expr.Subscript _ _ _) _) _ _ _); (k_dflt refine' Mine.sub_ev ?c8o ?c8F ?c8X ?c8T ?c8l ?c8k ?c8v ?c8u ?_; (case c8o => rfl); (case c8F => k_asm); (case c8X => k_asm); (case c8T => k_asm); (case c8l => first | with_reducible assumption | k_is); (case c8k => first | exact rfl | assumption); (case c8v => k_extra "evk"); (case c8u => k_extra "evk"); k_whole))
  k_with "hdr9 call" => ((with_reducible show PySem.wpAny _ _ (PySem.call (PySem.Value.builtin "len") [PySem.Value.str _ _]) _ _ _); (with_reducible refine Mine.len_s ?c8b ?_); (case c8b => first | with_reducible assumption | exact Nat.le_trans (by with_reducible assumption) (by decide)))
  k_with "hdr9 call" => ((with_reducible show PySem.wpAny _ _ (PySem.call (PySem.Value.ref _) _ _) _ _ _); k_dflt ((refine PySem.wpAny_call ?_); k_enter))
  k_with "hdr9 call" => ((with_reducible show PySem.wpAny _ _ (PySem.call (PySem.Value.ref _) _ _) _ _ _); k_extra "call ref")
  k_with "hdr9 call" => ((with_reducible show PySem.wpAny _ _ (PySem.call (PySem.Value.builtin "list.append") [PySem.Value.ref _, _] _) _ _ _); (k_dflt refine' Mine.append_led ?c8kf ?c8kn ?c8ku ?c8kz ?_; (case c8kf => k_asm); (case c8kn => k_asm); (case c8ku => k_upd); (case c8kz => (rw [PySem.sizeLine_eq]; first | decide | exact Nat.le_trans (by with_reducible assumption) (by decide) | exact Nat.le_trans (Nat.succ_le_succ (by with_reducible assumption)) (by decide) | (first | lia | omega))); k_whole); intro h_h F_h n_h N_h; (try dsimp only); (try k_fold))
  k_with "hdr9 call" => ((with_reducible show PySem.wpAny _ _ (PySem.call (PySem.Value.builtin "list.extend") [PySem.Value.ref _, PySem.Value.ref _] _) _ _ _); (k_dflt refine' Mine.extend_2 ?c8kf ?c8kn ?c8ku ?c8kv ?c8kz ?_; (case c8kf => k_asm); (case c8kn => k_asm); (case c8ku => k_ne); (case c8kv => k_all); (case c8kz => (rw [PySem.sizeLine_eq]; first | decide | exact Nat.le_trans (by with_reducible assumption) (by decide) | exact Nat.le_trans (Nat.succ_le_succ (by with_reducible assumption)) (by decide) | (first | lia | omega))); k_whole); intro h_h n_h F_h N_h; (try dsimp only); (try k_fold))
  k_with "hdr9 call" => ((with_reducible show PySem.wpAny _ _ (PySem.call (PySem.Value.builtin "len") [PySem.Value.ref _]) _ _ _); (k_dflt refine' PyProof.Rows.len_list ?c8kl ?c8kf ?_; (case c8kl => exact PyProof.Rows.News.isList (by k_asm) (by k_mem)); (case c8kf => (simp only [List.size_toArray]; (first | lia | omega))); k_whole); (try simp only [List.size_toArray]))
  k_with "hdr9 call" => ((with_reducible show PySem.wpAny _ _ (PySem.call (PySem.Value.builtin "str.join") [PySem.Value.str _ _, PySem.Value.ref _]) _ _ _); (k_dflt refine' Mine.call_join_chs ?c8kn ?c8km ?c8kc ?c8kb ?_; (case c8kn => k_asm); (case c8km => k_mem); (case c8kc => with_reducible assumption); (case c8kb => first | with_reducible assumption | (first | lia | omega)); k_whole); intro t_h k_h; (try dsimp only); (try k_fold))
  k_with "hdr9 call" => with_reducible refine Mine.stop_enum ?_
  k_with "hdr9 call" => ((with_reducible show PySem.wpAny _ _ (PySem.call (PySem.Value.builtin "sorted") [PySem.Value.ref _]) _ _ _); (k_dflt refine' Mine.sorted_two ?c8hF ?c8hN ?c8h1 ?_; (case c8hF => k_asm); (case c8hN => k_asm); (case c8h1 => k_mem)); intro d_h h_h lo_h hi_h t_h u_h e_h F_h n_h N_h l_h hlo_h hab_h; (try dsimp only); (try k_fold))
  k_with "hdr9 call" => ((with_reducible show PySem.wpAny _ _ (PySem.call (PySem.Value.builtin "str.join") [PySem.Value.str _ _, PySem.Value.ref _]) _ _ _); (k_dflt refine' Mine.call_join_tok ?c8kn ?c8km ?c8kc ?c8kb ?c8k0 ?c8ky ?_; (case c8kn => k_asm); (case c8km => k_mem); (case c8kc => with_reducible assumption); (case c8kb => first | with_reducible assumption | (first | lia | omega)); (case c8k0 => with_reducible assumption); (case c8ky => with_reducible assumption); k_whole); intro t_h k_h le_h p_h lt_h; (try dsimp only at le_h); (try dsimp only); (try k_fold))
  k_with "hdr9 exec" => with_reducible refine Mine.stop_for ?_
  k_with "hdr9 exec" => with_reducible refine Mine.stop_while ?_
  k_with "hdr9 exec" => with_reducible refine Mine.stop_asg ?_
  k_with "hdr9 exec" => ((with_reducible show PySem.wpAny _ _ (PySem.exec (PySem.Stmt.Assign [PySem.Expr.Name _ _] _ _) _) _ _ _); (k_dflt refine' Mine.asg_ev ?c8o ?c8F ?c8N ?c8X ?c8T ?c8l ?c8k ?c8v ?c8x ?c8s ?_; (case c8N => k_asm); (case c8F => k_asm); (case c8X => k_asm); (case c8T => k_asm); (case c8l => first | with_reducible assumption | k_is); (case c8k => first | exact rfl | assumption); (case c8v => k_extra "evk"); (case c8x => exact rfl); (case c8s => exact rfl); k_whole); intro h_h m_h F_h N_h; (try k_sweep))
  k_with "hdr9 exec" => ((with_reducible show PySem.wpAny _ _ (PySem.exec (PySem.Stmt.Return (some _) _) _) _ _ _); (k_dflt refine' Mine.ret_ev ?c8o ?c8F ?c8X ?c8T ?c8l ?c8k ?c8v ?_; (case c8o => rfl); (case c8F => k_asm); (case c8X => k_asm); (case c8T => k_asm); (case c8l => first | with_reducible assumption | k_is); (case c8k => first | exact rfl | assumption); (case c8v => k_extra "evk"); k_whole))
  k_with "hdr9 subscriptTail" => ((with_reducible show PySem.wpAny _ _ (PyProof.Rows.subscriptTail _ _ (PySem.Value.str _ _) (PySem.Value.int _ _)) _ _ _); (k_dflt refine' Mine.item_s ?c8x ?c8y ?c8b ?c8s ?c8t ?_; (case c8x => first | with_reducible assumption | exact Int.natCast_nonneg _ | exact Mine.nn1 | exact Mine.nn2); (case c8y => with_reducible assumption); (case c8b => first | with_reducible assumption | exact Nat.le_trans (by with_reducible assumption) (by decide)); (case c8s => with_unfolding_all rfl); (case c8t => (intro _; with_unfolding_all rfl)); k_whole); intro _)
  k_with "hdr9 subscriptTail" => ((with_reducible show PySem.wpAny _ _ (PyProof.Rows.subscriptTail _ _ (PySem.Value.ref _) (PySem.Value.int 0 _)) _ _ _); (k_dflt refine' Mine.item_0 ?c8ki ?c8kj ?_; (case c8ki => k_asm); (case c8kj => k_mem); k_whole))
  k_with "hdr9 subscriptTail" => ((with_reducible show PySem.wpAny _ _ (PyProof.Rows.subscriptTail _ _ (PySem.Value.ref _) (PySem.Value.int 1 _)) _ _ _); (k_dflt refine' Mine.item_1 ?c8ki ?c8kj ?_; (case c8ki => k_asm); (case c8kj => k_mem); k_whole))
  k_with "hdr9 subscriptTail" => ((with_reducible show PySem.wpAny _ _ (PyProof.Rows.subscriptTail _ _ (PySem.Value.ref _) (PySem.Value.int 2 _)) _ _ _); (k_dflt refine' Mine.item_2 ?c8ki ?c8kj ?_; (case c8ki => k_asm); (case c8kj => k_mem); k_whole))
  k_with "hdr9 subscriptTail" => ((with_reducible show PySem.wpAny _ _ (PyProof.Rows.subscriptTail _ _ (PySem.Value.ref _) (PySem.Value.int 3 _)) _ _ _); (k_dflt refine' Mine.item_3 ?c8ki ?c8kj ?_; (case c8ki => k_asm); (case c8kj => k_mem); k_whole))
  k_with "hdr9 subscriptTail" => ((with_reducible show PySem.wpAny _ _ (PyProof.Rows.subscriptTail _ _ (PySem.Value.ref _) (PySem.Value.int (-1) _)) _ _ _); (k_dflt refine' Mine.item_last ?c8ki ?c8kj ?_; (case c8ki => k_asm); (case c8kj => k_mem); k_whole))
  k_with "hdr9 subscriptTail" => ((with_reducible show PySem.wpAny _ _ (PyProof.Rows.subscriptTail _ (PySem.Expr.Call _ _ _ _) (PySem.Value.str _ _) (PySem.Value.int _ _)) _ _ _); (k_dflt refine' Mine.item_pick ?c8h0 ?c8h1 ?c8hx ?_; (case c8h0 => (first | lia | omega)); (case c8h1 => (first | lia | omega)); (case c8hx => (first | lia | omega))); intro c_h hc_h; (try dsimp only); (try k_fold))
  k_with "hdr9 isTrue" => ((with_reducible show PySem.wpAny _ _ (PySem.isTrue (PySem.Expr.Compare _ [_] [_] _) _ _) _ _ _); (k_dflt refine' Mine.isTc_ev ?c8o ?c8F ?c8X ?c8T ?c8l ?c8k ?c8v ?c8u ?c8b ?_; (case c8o => rfl); (case c8F => k_asm); (case c8X => k_asm); (case c8T => k_asm); (case c8l => first | with_reducible assumption | k_is); (case c8k => first | exact rfl | assumption); (case c8v => k_extra "evk"); (case c8u => k_extra "evk"); (case c8b => with_unfolding_all rfl); k_whole))
  k_with "hdr9 isTrue" => ((with_reducible show PySem.wpAny _ _ (PySem.isTrue (PySem.Expr.Compare _ [PySem.CmpOp.Lt] [_] _) _ _) _ _ _); (k_dflt refine' Mine.isT_lt ?c8o ?c8F ?c8X ?c8T ?c8l ?c8k ?c8v ?c8u ?c8b ?_ ?_; (case c8o => rfl); (case c8F => k_asm); (case c8X => k_asm); (case c8T => k_asm); (case c8l => first | with_reducible assumption | k_is); (case c8k => first | exact rfl | assumption); (case c8v => k_extra "evk"); (case c8u => k_extra "evk"); (case c8b => with_unfolding_all rfl)); all_goals (intro a_h; first | exact absurd a_h (by decide) | exact absurd (by decide) a_h | exact absurd a_h (Int.not_lt.mpr (Int.natCast_nonneg _)) | exact absurd (Int.natCast_nonneg _) a_h | skip))
  k_with "hdr9 isTrue" => ((with_reducible show PySem.wpAny _ _ (PySem.isTrue (PySem.Expr.Compare _ [PySem.CmpOp.LtE] [_] _) _ _) _ _ _); (k_dflt refine' Mine.isT_le ?c8o ?c8F ?c8X ?c8T ?c8l ?c8k ?c8v ?c8u ?c8b ?_ ?_; (case c8o => rfl); (case c8F => k_asm); (case c8X => k_asm); (case c8T => k_asm); (case c8l => first | with_reducible assumption | k_is); (case c8k => first | exact rfl | assumption); (case c8v => k_extra "evk"); (case c8u => k_extra "evk"); (case c8b => with_unfolding_all rfl)); all_goals (intro a_h; first | exact absurd a_h (by decide) | exact absurd (by decide) a_h | exact absurd a_h (Int.not_lt.mpr (Int.natCast_nonneg _)) | exact absurd (Int.natCast_nonneg _) a_h | skip))
  k_with "hdr9 isTrue" => ((with_reducible show PySem.wpAny _ _ (PySem.isTrue (PySem.Expr.Compare _ [PySem.CmpOp.Gt] [_] _) _ _) _ _ _); (k_dflt refine' Mine.isT_gt ?c8o ?c8F ?c8X ?c8T ?c8l ?c8k ?c8v ?c8u ?c8b ?_ ?_; (case c8o => rfl); (case c8F => k_asm); (case c8X => k_asm); (case c8T => k_asm); (case c8l => first | with_reducible assumption | k_is); (case c8k => first | exact rfl | assumption); (case c8v => k_extra "evk"); (case c8u => k_extra "evk"); (case c8b => with_unfolding_all rfl)); all_goals (intro a_h; first | exact absurd a_h (by decide) | exact absurd (by decide) a_h | exact absurd a_h (Int.not_lt.mpr (Int.natCast_nonneg _)) | exact absurd (Int.natCast_nonneg _) a_h | skip))
  k_with "hdr9 isTrue" => ((with_reducible show PySem.wpAny _ _ (PySem.isTrue (PySem.Expr.Compare _ [PySem.CmpOp.GtE] [_] _) _ _) _ _ _); (k_dflt refine' Mine.isT_ge ?c8o ?c8F ?c8X ?c8T ?c8l ?c8k ?c8v ?c8u ?c8b ?_ ?_; (case c8o => rfl); (case c8F => k_asm); (case c8X => k_asm); (case c8T => k_asm); (case c8l => first | with_reducible assumption | k_is); (case c8k => first | exact rfl | assumption); (case c8v => k_extra "evk"); (case c8u => k_extra "evk"); (case c8b => with_unfolding_all rfl)); all_goals (intro a_h; first | exact absurd a_h (by decide) | exact absurd (by decide) a_h | exact absurd a_h (Int.not_lt.mpr (Int.natCast_nonneg _)) | exact absurd (Int.natCast_nonneg _) a_h | skip))
  k_with "hdr9 isTrue" => ((with_reducible show PySem.wpAny _ _ (PySem.isTrue (PySem.Expr.Compare _ [PySem.CmpOp.Eq] [_] _) _ _) _ _ _); (k_dflt refine' Mine.isT_eq ?c8o ?c8F ?c8X ?c8T ?c8l ?c8k ?c8v ?c8u ?c8b ?_ ?_; (case c8o => rfl); (case c8F => k_asm); (case c8X => k_asm); (case c8T => k_asm); (case c8l => first | with_reducible assumption | k_is); (case c8k => first | exact rfl | assumption); (case c8v => k_extra "evk"); (case c8u => k_extra "evk"); (case c8b => with_unfolding_all rfl)); all_goals (intro a_h; first | exact absurd a_h (by decide) | exact absurd (by decide) a_h | exact absurd a_h (Int.not_lt.mpr (Int.natCast_nonneg _)) | exact absurd (Int.natCast_nonneg _) a_h | skip))
  k_with "hdr9 isTrue" => ((with_reducible show PySem.wpAny _ _ (PySem.isTrue (PySem.Expr.Compare _ [PySem.CmpOp.NotEq] [_] _) _ _) _ _ _); (k_dflt refine' Mine.isT_ne ?c8o ?c8F ?c8X ?c8T ?c8l ?c8k ?c8v ?c8u ?c8b ?_ ?_; (case c8o => rfl); (case c8F => k_asm); (case c8X => k_asm); (case c8T => k_asm); (case c8l => first | with_reducible assumption | k_is); (case c8k => first | exact rfl | assumption); (case c8v => k_extra "evk"); (case c8u => k_extra "evk"); (case c8b => with_unfolding_all rfl)); all_goals (intro a_h; first | exact absurd a_h (by decide) | exact absurd (by decide) a_h | exact absurd a_h (Int.not_lt.mpr (Int.natCast_nonneg _)) | exact absurd (Int.natCast_nonneg _) a_h | skip))
  k_with "hdr9 execs" => ((with_reducible show PySem.wpAny _ _ (PySem.execs (_ :: _) _) _ _ _); (try ((fail_if_success (fail_if_success (with_reducible show PySem.wpAny _ _ _ _ _ (PySem.Shared.mk _ _ _ (_ + 1) _)))); (with_reducible refine Mine.toksg ?_); intro tk_h)); (with_reducible refine Mine.opq ?_); intro Qs_h hQs_h)
  k_with "hdr9 execs" => ((with_reducible show PySem.wpAny _ _ (PySem.execs (_ :: _) _) _ _ _); (fail_if_success (fail_if_success (first | with_reducible refine Mine.isS (by with_reducible assumption) ?_ | with_reducible refine Mine.isO (by with_reducible assumption) ?_))); first | ((fail_if_success (fail_if_success (with_reducible show PySem.wpAny _ _ _ _ _ (PySem.Shared.mk _ _ _ (_ + 1) _)))); first | ((with_reducible refine Mine.execs_oneg ?_); intro tk_h) | ((with_reducible refine Mine.opqSg ?_); intro tk_h Qs_h hQs_h)) | (with_reducible refine Mine.execs_one ?_) | ((with_reducible refine Mine.opqS ?_); intro Qs_h hQs_h))
  k_with "hdr9 storeName" => ((with_reducible show PySem.wpAny _ _ (PySem.storeName _ _ _) _ _ _); (k_dflt refine' Mine.store_c ?c8F ?c8N ?c8c ?c8U ?c8d ?_ ?c8a ?c8b; (case c8a => first | exact rfl | assumption); (case c8b => exact rfl); (case c8F => k_asm); (case c8N => k_asm); (case c8c => exact rfl); (case c8U => k_updF); (case c8d => k_asm); k_whole); intro h_h o_h F_h n_h N_h d_h; (try k_sweep))
  k_with "hdr9 storeName" => ((with_reducible show PySem.wpAny _ _ (PySem.storeName _ _ _) _ _ _); (k_dflt refine' Mine.store_u ?c8F ?c8N ?_ ?c8a ?c8b; (case c8F => k_asm); (case c8N => k_asm); (case c8a => first | exact rfl | assumption); (case c8b => exact rfl); k_whole); intro h_h m_h F_h N_h; (try k_sweep))
  k_with "hdr9 binaryOp" => ((with_reducible show PySem.wpAny _ _ (PySem.binaryOp PySem.Operator.Add (PySem.Value.ref _) (PySem.Value.ref _)) _ _ _); (k_dflt refine' Mine.add_led ?c8hF ?c8hN ?c8h1 ?c8h2 ?c8hz ?_; (case c8hF => k_asm); (case c8hN => k_asm); (case c8h1 => k_mem); (case c8h2 => k_mem); (case c8hz => ((try simp only [List.length_cons, List.length_nil]); first | exact Nat.le_trans (Nat.add_le_add_right (by with_reducible assumption) _) (by decide) | (first | lia | omega)))); intro d_h h_h F_h n_h N_h l_h; (try dsimp only); (try k_fold))
  k_with "hdr9 spliced" => ((with_reducible show PySem.wpAny _ _ (PySem.spliced (PySem.backTo _ (PySem.starEach (_ :: _) _))) _ _ _); (k_dflt refine' Mine.args_ev ?c8o ?c8F ?c8X ?c8T ?c8l ?c8k ?c8v ?_; (case c8o => rfl); (case c8F => k_asm); (case c8X => k_asm); (case c8T => k_asm); (case c8l => first | with_reducible assumption | k_is); (case c8k => first | exact rfl | assumption); (case c8v => k_extra "evk"); k_whole); (try dsimp only [List.nil_append, List.cons_append]))
  k_with "hdr9 pyIter" => with_reducible refine Mine.stop_iter ?_
  k_with "hdr9 newList" => ((with_reducible show PySem.wpAny _ _ (PySem.newList _) _ _ _); (k_dflt refine' Mine.newList_L ?c8F ?c8N ?c8z ?_; (case c8F => k_asm); (case c8N => k_asm); (case c8z => first | exact Nat.le_of_ble_eq_true rfl | size_fits); k_whole); intro l_h h_h F_h n_h N_h a_h; (try k_sweep))
  k_with "hdr9 newTuple" => ((with_reducible show PySem.wpAny _ _ (PySem.newTuple _) _ _ _); (k_dflt refine' Mine.newTuple_L ?c8F ?c8N ?c8z ?_; (case c8F => k_asm); (case c8N => k_asm); (case c8z => first | exact Nat.le_of_ble_eq_true rfl | size_fits); k_whole); intro l_h h_h F_h n_h N_h a_h; (try k_sweep))
  k_with "hdr9 other" => (with_reducible refine Mine.SubQ.go (by with_reducible assumption) ?_; (try dsimp only))
  k_with "hdr9 other" => with_reducible refine Mine.SeqQ.cont (by with_reducible assumption) ?_
  k_with "hdr9 other" => with_reducible refine Mine.SeqQ.brk (by with_reducible assumption) ?_
  k_with "hdr9 other" => with_reducible refine Mine.SeqQ.ret (by with_reducible assumption) ?_
  k_with "hdr9 other" => with_reducible refine Mine.CyQ.out (by with_reducible assumption) (by with_reducible assumption) (by with_reducible assumption) ?_
  k_with "hdr9 other" => ((with_reducible refine Mine.CtQ.both (by with_reducible assumption) (by with_reducible assumption) (by with_reducible assumption) ?_ ?_) <;> intro b_h)
  k_with "hdr9 other" => with_reducible refine Mine.CtQ.no (by with_reducible assumption) (by with_reducible assumption) (by with_reducible assumption) ?_
  k_with "hdr9 other" => with_reducible refine Mine.CtQ.yes (by with_reducible assumption) ?_
  k_with "hdr9 other" => with_reducible refine Mine.SeqQ.next (by with_reducible assumption) ?_
  k_with "hdr9 other" => with_reducible refine Mine.stop_ksw ?_
  k_with "hdr9 other" => with_reducible refine Mine.stop_src ?_
  k_with "hdr9 other" => with_reducible refine Mine.stop_srcT ?_
  k_with "hdr9 other" => with_reducible refine Mine.stop_srcS ?_
  k_with "hdr9 other" => with_reducible refine Mine.stop_end ?_
  k_with "hdr9 other" => with_reducible refine Mine.stop_turn ?_
  k_with "hdr9 other" => with_reducible refine Mine.stop_turnC ?_
  k_with "hdr9 other" => with_reducible refine Mine.TurnP.ret ?_
  k_with "hdr9" => (first | ((with_reducible show PySem.wpAny _ _ _ _ _ _); first | ((with_reducible show PySem.wpAny _ _ (PySem.eval _ _) _ _ _); k_extra "hdr9 eval") | ((with_reducible show PySem.wpAny _ _ (PySem.call _ _ _) _ _ _); k_extra "hdr9 call") | ((with_reducible show PySem.wpAny _ _ (PySem.exec _ _) _ _ _); k_extra "hdr9 exec") | ((with_reducible show PySem.wpAny _ _ (PyProof.Rows.subscriptTail _ _ _ _) _ _ _); k_extra "hdr9 subscriptTail") | ((with_reducible show PySem.wpAny _ _ (PySem.isTrue _ _ _) _ _ _); k_extra "hdr9 isTrue") | ((with_reducible show PySem.wpAny _ _ (PySem.execs _ _) _ _ _); k_extra "hdr9 execs") | ((with_reducible show PySem.wpAny _ _ (PySem.storeName _ _ _) _ _ _); k_extra "hdr9 storeName") | ((with_reducible show PySem.wpAny _ _ (PySem.binaryOp _ _ _) _ _ _); k_extra "hdr9 binaryOp") | ((with_reducible show PySem.wpAny _ _ (PySem.spliced _) _ _ _); k_extra "hdr9 spliced") | ((with_reducible show PySem.wpAny _ _ (PySem.pyIter _) _ _ _); k_extra "hdr9 pyIter") | ((with_reducible show PySem.wpAny _ _ (PySem.newList _) _ _ _); k_extra "hdr9 newList") | ((with_reducible show PySem.wpAny _ _ (PySem.newTuple _) _ _ _); k_extra "hdr9 newTuple") | fail) | ((fail_if_success (with_reducible show PySem.wpAny _ _ _ _ _ _)); k_extra "hdr9 other"))
  k_with "k_memS17" => ((fail_if_success (fail_if_success (have := (by with_reducible assumption : Mine.Md 17)))); with_reducible assumption)
  k_with "k_allS17" => ((fail_if_success (fail_if_success (have := (by with_reducible assumption : Mine.Md 17)))); first | exact Mine.ne_of_allLt (by assumption) (Nat.le_add_right _ 3) | exact Mine.ne_of_allLt (by assumption) (Nat.le_add_right _ 4) | exact Mine.ne_of_allLt (by assumption) (Nat.le_add_right _ 5))
  k_with "mineS17 call" => ((with_reducible show PySem.wpAny _ _ (PySem.call (PySem.Value.type "enumerate") [PySem.Value.str _ _]) _ _ _); (fail_if_success (fail_if_success (have := (by with_reducible assumption : Mine.Md 17)))); with_reducible refine Mine.Stop.out ?_)
  k_with "mineS17 subscriptTail" => ((with_reducible show PySem.wpAny _ _ (PyProof.Rows.subscriptTail _ _ (PySem.Value.ref _) (PySem.Value.int 0 _)) _ _ _); (fail_if_success (fail_if_success (have := (by with_reducible assumption : Mine.Md 17)))); (k_dflt refine' Mine.tup3_0 ?c8ki ?c8kj ?_; (case c8ki => k_asm); (case c8kj => (repeat (first | with_reducible assumption | with_reducible refine List.mem_cons_of_mem _ ?_))); k_whole))
  k_with "mineS17" => (first | ((with_reducible show PySem.wpAny _ _ _ _ _ _); first | ((with_reducible show PySem.wpAny _ _ (PySem.call _ _ _) _ _ _); k_extra "mineS17 call") | ((with_reducible show PySem.wpAny _ _ (PyProof.Rows.subscriptTail _ _ _ _) _ _ _); k_extra "mineS17 subscriptTail") | fail))
  intro w b o sm c al ta x tx rest hB hc hal hx hoff
  have hmd : Md 17 := Md.on 17
  k_with "call ref" => ((with_reducible show PySem.wpAny _ _ (PySem.call (PySem.Value.ref 434) _ _) _ _ _); k_dflt (refine' Mine.take_use take2_spec ?c7hB ?c7hc ?c7hm ?c7hm2 ?c7k1 ?c7k2 ?c7k3 ?c7k4 ?c7kU ?c7k5 ?c7kK ?c7kd ?c7ku ?_; (case c7k1 => k_asm); (case c7k2 => k_asm); (case c7k3 => k_asm); (case c7k4 => k_asm); (case c7kU => k_updF); (case c7hB => with_reducible assumption); (case c7hc => first | with_reducible assumption | (with_reducible refine Mine.bx1 (by with_reducible assumption) ?_; decide) | (with_reducible refine Mine.bx2 (by with_reducible assumption) ?_; decide) | (with_reducible refine Mine.bx3 (by with_reducible assumption) ?_; decide) | (with_reducible refine Mine.bx4 (by with_reducible assumption) ?_; decide) | (with_reducible refine Mine.bx5 (by with_reducible assumption) ?_; decide) | (with_reducible refine Mine.bx6 (by with_reducible assumption) ?_; decide) | (with_reducible refine Mine.bx7 (by with_reducible assumption) ?_; decide) | (with_reducible refine Int.lt_trans (by with_reducible assumption) ?_; decide) | (first | lia | omega)); (case c7hm => first | decide | (first | lia | omega)); (case c7hm2 => first | decide | (first | lia | omega)); (case c7k5 => k_asm); (case c7kK => first | exact rfl | assumption); (case c7kd => k_room); (case c7ku => k_units)); intro o9 d9 t9 h9 tk9 le9 F9 n9 N9 hB9 hd9 hd9'; (try dsimp only at le9); (try dsimp only at N9); (try dsimp only); (try k_fold))
  k_with "call ref" => ((with_reducible show PySem.wpAny _ _ (PySem.call (PySem.Value.ref 458) _ _) _ _ _); k_dflt (refine' Mine.set_use set_spec ?c7hB ?c7hc ?c7hal ?c7k1 ?c7k2 ?c7k3 ?c7k4 ?c7kU ?c7k5 ?c7kK ?c7kd ?c7ku ?_; (case c7k1 => k_asm); (case c7k2 => k_asm); (case c7k3 => k_asm); (case c7k4 => k_asm); (case c7kU => k_updF); (case c7hB => with_reducible assumption); (case c7hc => first | with_reducible assumption | (with_reducible refine Mine.bx1 (by with_reducible assumption) ?_; decide) | (with_reducible refine Mine.bx2 (by with_reducible assumption) ?_; decide) | (with_reducible refine Mine.bx3 (by with_reducible assumption) ?_; decide) | (with_reducible refine Mine.bx4 (by with_reducible assumption) ?_; decide) | (with_reducible refine Mine.bx5 (by with_reducible assumption) ?_; decide) | (with_reducible refine Mine.bx6 (by with_reducible assumption) ?_; decide) | (with_reducible refine Mine.bx7 (by with_reducible assumption) ?_; decide) | (with_reducible refine Int.lt_trans (by with_reducible assumption) ?_; decide) | (first | lia | omega)); (case c7hal => with_reducible assumption); (case c7k5 => k_asm); (case c7kK => first | exact rfl | assumption); (case c7kd => k_room); (case c7ku => k_units)); intro r9 o9 ex9 h9 tk9 le9 F9 N9 hF9 P9; refine Mine.hideG ?_; intro gP_h hG_h; obtain ⟨hB9, T9, x9, tx9, bb9, M9, vs9, k9, ms9, rfl, hT9, hM9, hC9, hX9, hx9⟩ := P9; refine hG_h ?_; clear hG_h; (try simp only [List.cons_append] at N9); (try dsimp only at N9); (try dsimp only); (try k_fold))
  k_with "call ref" => ((with_reducible show PySem.wpAny _ _ (PySem.call (PySem.Value.ref 441) _ _) _ _ _); k_dflt (refine' Mine.thing_use thing_spec ?c7k1 ?c7k2 ?c7k3 ?c7k4 ?c7k5 ?c7kK ?c7kd ?c7ku ?_; (case c7k1 => k_asm); (case c7k2 => k_asm); (case c7k3 => k_asm); (case c7k4 => k_asm); (case c7k5 => k_asm); (case c7kK => first | exact rfl | assumption); (case c7kd => k_room); (case c7ku => k_units)); intro a9 dx9 f9 q1 q2 q3 q4 q5 q6 q7 q0 h9 tk9 le9 F9 n9 N9 l9 d9 m9; (try dsimp only at le9); have e9 : @LT.lt Nat _ dx9 a9 := d9; (try dsimp only); (try k_fold))
  k_with "call ref" => ((with_reducible show PySem.wpAny _ _ (PySem.call (PySem.Value.ref 463) _ _) _ _ _); k_dflt (refine' Mine.Fn.useV (means_spec _ _ _ _ _ _ ?c7hS ?c7hl) ?c7k1 ?c7k2 ?c7k3 ?c7k4 ?c7k5 ?c7kK ?c7kd ?c7ku ?_; (case c7k1 => k_asm); (case c7k2 => k_asm); (case c7k3 => k_asm); (case c7k4 => k_asm); (case c7k5 => k_asm); (case c7hS => exact Mine.Sets3.mono (by assumption) (by k_extra "subw")); (case c7hl => with_reducible assumption); (case c7kK => first | exact rfl | assumption); (case c7kd => k_room); (case c7ku => k_units)); intro h9 tk9 le9 F9 N9; (try dsimp only); (try k_fold))
  k_with "call ref" => ((with_reducible show PySem.wpAny _ _ (PySem.call (PySem.Value.ref 401) _ _) _ _ _); k_dflt (refine' Mine.Fn.useG (deleted_spec _ _ _ _ _ _ _ _ ?c7hx ?c7hm ?c7hR ?c7hl) ?c7k1 ?c7k2 ?c7k3 ?c7k4 ?c7k5 ?c7kK ?c7kd ?c7ku ?_; (case c7k1 => k_asm); (case c7k2 => k_asm); (case c7k3 => k_asm); (case c7k4 => k_asm); (case c7k5 => k_asm); (case c7hx => with_reducible assumption); (case c7hR => exact Mine.Args.mono (by assumption) (by k_extra "subw")); (case c7hm => first | (with_reducible exact List.mem_cons_self) | (repeat (first | with_reducible assumption | apply List.mem_cons_of_mem | apply List.mem_append_left))); (case c7hl => with_reducible assumption); (case c7kK => first | exact rfl | assumption); (case c7kd => k_room); (case c7ku => k_units)); intro t9 h9 tk9 le9 F9 N9; (try dsimp only); (try k_fold))
  k_with "call ref" => ((with_reducible show PySem.wpAny _ _ (PySem.call (PySem.Value.ref 389) _ _) _ _ _); k_dflt (refine' Mine.Fn.useG (count_spec _ _ _ _ _ _ _ _ _ ?c7hT ?c7hx ?c7hm ?c7hR ?c7hl) ?c7k1 ?c7k2 ?c7k3 ?c7k4 ?c7k5 ?c7kK ?c7kd ?c7ku ?_; (case c7k1 => k_asm); (case c7k2 => k_asm); (case c7k3 => k_asm); (case c7k4 => k_asm); (case c7k5 => k_asm); (case c7hT => first | exact Mine.thing_in (by k_mem) (by k_mem) | assumption | exact Mine.ThingIn.mono (by assumption) (by k_extra "subw")); (case c7hx => with_reducible assumption); (case c7hR => exact Mine.Args.mono (by assumption) (by k_extra "subw")); (case c7hm => first | k_mem | k_extra "memw"); (case c7hl => with_reducible assumption); (case c7kK => first | exact rfl | assumption); (case c7kd => k_room); (case c7ku => k_units)); intro t9 h9 tk9 le9 F9 N9; (try dsimp only); (try k_fold))
  k_with "call ref" => ((with_reducible show PySem.wpAny _ _ (PySem.call (PySem.Value.ref 396) _ _) _ _ _); k_dflt (refine' Mine.Fn.useG (squeezed_spec _ _ _ _ _ _ _ _ ?c7hx ?c7hm ?c7hR ?c7hl) ?c7k1 ?c7k2 ?c7k3 ?c7k4 ?c7k5 ?c7kK ?c7kd ?c7ku ?_; (case c7k1 => k_asm); (case c7k2 => k_asm); (case c7k3 => k_asm); (case c7k4 => k_asm); (case c7k5 => k_asm); (case c7hx => with_reducible assumption); (case c7hR => first | exact Mine.Args.mono (by assumption) (by k_extra "subw") | exact Mine.Args.nil); (case c7hm => first | k_mem | k_extra "memw"); (case c7hl => with_reducible assumption); (case c7kK => first | exact rfl | assumption); (case c7kd => k_room); (case c7ku => k_units)); intro t9 h9 tk9 le9 F9 N9; (try dsimp only); (try k_fold))
  unfold Fn
  intro p loose mean mg mb dp un gd cn cs a ccd cl outer A₀ base h₀ L m s Q E B F X N T hk hd hu hret
  refine wpAny_call ?_
  k_dflt (refine' Mine.code_defCL [Str.ofString "box", Str.ofString "alphabet", Str.ofString "text"] [] (fun L' => [(L' + 1 + 1 + 1 + 1 + 1, none), (L' + 1 + 1 + 1 + 1, none), (L' + 1 + 1 + 1, some (.str x tx)), (L' + 1 + 1, some (.str al ta)), (L' + 1, some (.ref b))]) ?k1 ?k2 ?k3 ?k4 ?k5 ?kA ?kF ?kK ?k6 ?k7 ?k8 ?k9 ?kB ?kD ?kE ?kG ?_ ?c2 ?c3 ?c4; (case kA => exact rfl); (case kF => exact rfl); (case kK => assumption); (case k1 => k_asm); (case k2 => k_asm); (case k3 => k_asm); (case k4 => k_asm); (case k5 => k_asm); (case k6 => k_is); (case k7 => k_is); (case k8 => first | exact Mine.rm0 (by with_reducible assumption) | ktr_room); (case k9 => exact rfl); (case kB => exact rfl); (case kD => decide +kernel); (case kE => exact rfl); (case kG => exact fun _ => rfl); (case c2 => exact rfl); (case c3 => exact rfl); (case c4 => exact rfl); k_whole; intro g' L' h' tk' FG' F' B' X' T' l1 o' d1' o2' d2' o3' d3' o4' d4' o5' d5' N' e_h A_h; (try k_lift B'); (try k_fold))
  refine Mine.opq ?_
  intro Qr hQr
  have hlocs_h : Mine.Names [Str.ofString "args", Str.ofString "inside", Str.ofString "outside", Str.ofString "left", Str.ofString "some", Str.ofString "once", Str.ofString "due"] := trivial
  have hlen_h := Mine.len_of (by assumption) (by k_is)
  rename Fr _ _ _ _ => F0_h
  replace F0_h : Fr _ _ _ (Mine.lk []) := F0_h
  k_steps
  refine Stop.go ?_
  k_dflt (refine wpAny_Assign_Name ?_ (hs := by with_unfolding_all rfl))
  k_dflt (refine LCg.ListComp_U (F₀ := by k_asm) (by with_unfolding_all rfl) (by decide) (by rfl) (by decide) (by rfl) ?_)
  k_steps
  refine Stop.go ?_
  refine LCg.CompSrc.range (n := (1 + d9).toNat) (by rfl) (by k_asm) (by k_asm) (by assumption) (range_ok (by (first | lia | omega)) (by (first | lia | omega)) (by (first | lia | omega)) (by (first | lia | omega))) (by rw [rangeSize_nat]; (first | lia | omega)) (by rw [PySem.sizeLine_eq]; (first | lia | omega)) ?_
  intro g9
  refine restU (SrJ _ _ _ _ _ b o9 rest sm (c + 1)) (SrJ.start hB9) ?turn ?fin
  case turn =>
    rintro i ys nw v I oI C oC D m₂ h tk E' hi ⟨o2, ex, rs, rfl, hB2, hR2, hl2, hF2⟩ hP hC hx9 F N off ne
    have off' := off
    simp only [LCg.Off3] at off'
    have hcb := sr_bd hc hd9' hi
    k_steps
    refine Stop.go ?_
    refine LCg.CompEnd.intro (by k_asm) (by k_asm) (_ :: _ :: _ :: _ :: _ :: (b, o9) :: (rest ++ (ex ++ ex9))) (by intro p hp; rw [← List.append_assoc] at hp; exact hp) (off3_fresh off hF9 ?_) trivial (SrJ.step hR2 hl2 hF2 hF9 hB9 (by (first | lia | omega)) hT9 hM9 hC9 hX9)
    intro p hp
    simp only [List.mem_cons, List.mem_append] at hp
    rcases hp with h | h | h | h | h | h | h | h | h
    · exact .inl ⟨p, by simp [h], rfl⟩
    · exact .inl ⟨p, by simp [h], rfl⟩
    · exact .inl ⟨p, by simp [h], rfl⟩
    · exact .inl ⟨p, by simp [h], rfl⟩
    · exact .inl ⟨p, by simp [h], rfl⟩
    · exact .inl ⟨(b, o2), by simp, by rw [h]⟩
    · exact .inl ⟨p, by simp [h], rfl⟩
    · exact .inl ⟨p, by simp [h], rfl⟩
    · exact .inr h
  case fin =>
    rintro ys nw ⟨o2, ex, rs, rfl, hB2, hR2, hl2, hF2⟩
    intro D8 h8 tk8 F8 N8 o8
    have o8' := o8
    simp only [LCg.Off1] at o8'
    k_steps
    refine Stop.go ?_
    k_dflt (refine LCg.Assign_ListComp_U (F₀ := by k_asm) (by rfl) (by with_unfolding_all rfl) (by with_unfolding_all rfl) (by decide) (by rfl) (by decide) (by rfl) (by rfl) (by rfl) ?_)
    k_steps
    refine Stop.go ?_
    have hyl := hR2.length
    refine LCg.CompSrc.ledger (its := ys.toArray) (by rfl) (by k_asm) (by k_asm) (by k_mem) (by rw [List.size_toArray, PySem.sizeLine_eq]; (first | lia | omega)) ?_
    intro g9'
    refine restU (ArJ w _ rs) ArJ.start ?turn2 ?fin2
    case turn2 =>
      rintro i zs nw v I oI C oC D m₂ h tk E' hi ⟨ex2, rfl, hA3, hF3⟩ hP hC hx9 F N off ne
      refine Mine.hideG ?_; intro gP_h hG_h; obtain ⟨T, M, x3, t3, ws, k3, b3, m3, rfl, hr3, hT3, hM3, hC3, hX3⟩ := hR2.get (i := i) (v := v) (by simpa using hP); refine hG_h ?_; (try clear hG_h)
      (try dsimp +zetaDelta only at N)
      (try simp only [List.cons_append] at N)
      have off2 := off
      (try simp only [List.cons_append] at off2)
      have hTX := List.mem_append_left ex2 (List.mem_append_right rest hT3)
      generalize hXe : rest ++ ex ++ ex2 = X at N off2 hTX
      k_steps
      subst hXe
      refine Stop.go ?_
      rename News _ _ _ _ => N3
      have hst := ArJ.step (p1 := (a9, instObj 62 dx9)) (p2 := (dx9, thingD w q1 q2 q3 q4 q5 q6 q7 q0 f9 x3 t3 7)) hA3 hF3 hr3 hX3 (thing_in (.head _) (.tail _ (.head _))) ⟨(alt l9), d9⟩
      refine LCg.CompEnd.intro (by k_asm) N3 _ ?_ (off3_thing off (p1 := (a9, instObj 62 dx9)) (p2 := (dx9, thingD w q1 q2 q3 q4 q5 q6 q7 q0 f9 x3 t3 7)) ⟨(alt l9), d9⟩) (.inr ⟨_, .head _, rfl, _, rfl⟩) (by rw [List.append_assoc]; exact hst)
      exact sub_thing
    case fin2 =>
      rintro zs nw ⟨ex2, rfl, hA3, hF3⟩
      intro D9 h9 tk9 F9 N9 o9
      (try dsimp +zetaDelta only at N9)
      (try simp only [List.cons_append] at N9)
      k_steps
      obtain ⟨X, hXe⟩ : ∃ X, X = (D9, LCg.lst zs) :: (D8, LCg.lst ys) :: (ex ++ ex2) := ⟨_, rfl⟩
      have hzl := hA3.length
      have hS9 : Sets3 X D8 rs := ⟨ys, ys.length, by rw [hXe]; exact .tail _ (.head _), hR2.mono fun p hp => by rw [hXe]; exact .tail _ (.tail _ (List.mem_append_left _ hp))⟩
      have hl10 : rs.length ≤ 10 := by (first | lia | omega)
      have hA9 : Args w X zs rs := by
        rw [List.take_of_length_le (by rw [List.size_toArray]; (first | lia | omega))] at hA3
        exact hA3.mono fun p hp => by rw [hXe]; exact .tail _ (.tail _ (List.mem_append_right _ hp))
      have hm9 : (D9, listOf zs.toArray zs.length) ∈ X := by rw [hXe]; exact .head _
      have hAp := apart_group hXe o9 o8 rfl hF2 hF3
      rename News _ _ _ _ => N4
      have N5 := news_group N4 hXe
      clear N4 hXe o9 o8 hF2 hF3 hB9 hA3 o8' hR2 hl2 hzl hyl
      refine Stop.go ?_
      k_dflt (refine Mine.Assign_ListComp_strT (_F₀ := by k_asm) (by rfl) (by rfl) (by with_unfolding_all rfl) (by with_unfolding_all rfl) (by decide) (by rfl) (by decide) (by rfl) (by rfl) (by rfl) ?_)
      k_steps
      refine Stop.go ?_
      have hx1000 : x.length ≤ 1000 := by (first | lia | omega)
      refine SrcS.intro (by k_asm) N5 (by rw [PySem.sizeLine_eq]; have := hx; unfold Str.length at this; (first | lia | omega)) ?_
      intro gA
      refine restT_fix (fun i ys => Chs ys ((x.cps.toList.take i).filter (isIn rs))) .nil ?turnA ?finA
      case turnA =>
        intro i ys v I oI C oC D m₂ h tk E' hi hJ hP hC hx9 F N off ne
        refine Mine.hideG ?_; intro gP_h hG_h; obtain ⟨c, u, hc, rfl⟩ := hP; refine hG_h ?_; (try clear hG_h)
        k_steps
        · refine Stop.go ?_
          exact LCg.CompEnd.intro (by k_asm) (by k_asm) _ (by intro p hp; exact hp) off trivial ⟨rfl, filt_yes hJ (get_cps hc) (by assumption)⟩
        · refine Stop.go ?_
          exact LCg.CompEnd.intro (by k_asm) (by k_asm) _ (by intro p hp; exact hp) off trivial ⟨rfl, filt_no hJ (get_cps hc) (by assumption)⟩
      case finA =>
        intro ys1 hys1
        rw [List.take_of_length_le (by simp)] at hys1
        intro D10 h8 tk8 F8 N8 o10
        k_steps
        refine Stop.go ?_
        k_dflt (refine Mine.Assign_ListComp_strT (_F₀ := by k_asm) (by rfl) (by rfl) (by with_unfolding_all rfl) (by with_unfolding_all rfl) (by decide) (by rfl) (by decide) (by rfl) (by rfl) (by rfl) ?_)
        k_steps
        refine Stop.go ?_
        refine SrcS.intro (by k_asm) N8 (by rw [PySem.sizeLine_eq]; have := hx; unfold Str.length at this; (first | lia | omega)) ?_
        intro gB
        refine restT_fix (fun i ys => Chs ys ((x.cps.toList.take i).filter fun c => !isIn rs c)) .nil ?turnB ?finB
        case turnB =>
          intro i ys v I oI C oC D m₂ h tk E' hi hJ hP hC hx9 F N off ne
          refine Mine.hideG ?_; intro gP_h hG_h; obtain ⟨c, u, hc, rfl⟩ := hP; refine hG_h ?_; (try clear hG_h)
          k_steps
          · refine Stop.go ?_
            refine LCg.CompEnd.intro (by k_asm) (by k_asm) _ (by intro p hp; exact hp) off trivial ⟨rfl, filt_no hJ (get_cps hc) (by rw [Bool.not_eq_false']; assumption)⟩
          · refine Stop.go ?_
            refine LCg.CompEnd.intro (by k_asm) (by k_asm) _ (by intro p hp; exact hp) off trivial ⟨rfl, filt_yes hJ (get_cps hc) (by rw [Bool.not_eq_true']; assumption)⟩
        case finB =>
          intro ys2 hys2
          rw [List.take_of_length_le (by simp)] at hys2
          have hL1 := Chs.length hys1
          have hL2 := Chs.length hys2
          have hcnt := cnt_in (isIn rs) x.cps.toList
          have hdel := cnt_del (isIn rs) x.cps.toList
          have hsum := cnt_sum (isIn rs) x.cps.toList
          have hxl : x.cps.toList.length = x.length := L_len x
          have hle2 : (x.cps.toList.filter fun c => !isIn rs c).length ≤ 100000 := by (first | lia | omega)
          intro D11 h8 tk8 F8 N8 o11
          have hSl : (S (x.cps.toList.filter fun c => !isIn rs c)).length = (x.cps.toList.filter fun c => !isIn rs c).length := by rw [← L_len, L_S]
          have hSc : (S (x.cps.toList.filter fun c => !isIn rs c)).cps.toList = x.cps.toList.filter fun c => !isIn rs c := L_S _
          have hS1 : (S (x.cps.toList.filter fun c => !isIn rs c)).length ≤ 1000 := by (first | lia | omega)
          have hdd : (S (x.cps.toList.filter fun c => !isIn rs c)).cps.toList.filter (fun c => !isIn rs c) = x.cps.toList.filter fun c => !isIn rs c := by rw [hSc]; exact del_idem _ _
          have hcd : (S (x.cps.toList.filter fun c => !isIn rs c)).cps.toList.countP (isIn rs) = 0 := by rw [hSc]; exact hdel
          k_steps
          · exfalso; (first | lia | omega)
          · exact bad_ne (by assumption)
          · exact bad_del (by assumption)
          · exfalso; (first | lia | omega)
          · exfalso; (first | lia | omega)
          refine Stop.go ?_
          rename News _ _ _ _ => N6
          have N7 := news_drop6 N6
          clear N6 hSl hSc hS1 hdd hcd hL1 hL2 hcnt hdel hsum hle2 o11 o10
          rename Fr _ _ _ (fun _ => _) => F1
          k_dflt refine' For_turns F1 ?_
          k_steps
          refine Stop.go ?_
          rename News _ _ _ _ => N8
          obtain ⟨Y, hYe⟩ : ∃ Y, Y = _ := ⟨_, rfl⟩
          have N9 := news_five N8 hYe
          have hY5 : ∀ p ∈ Y, p.1 ≠ L' + 1 + 1 + 1 + 1 + 1 := by
            have hX5 : ∀ p ∈ X, p.1 ≠ L' + 1 + 1 + 1 + 1 + 1 := ne_apart hAp (by simp)
            rw [hYe]
            refine List.forall_mem_cons.mpr ⟨by k_ne, List.forall_mem_cons.mpr ⟨by k_ne, List.forall_mem_cons.mpr ⟨by k_ne, List.forall_mem_cons.mpr ⟨by k_ne, List.forall_mem_cons.mpr ⟨by k_ne, hX5⟩⟩⟩⟩⟩
          have hDuo := hYe ▸ duo_all hm9 hA9 hS9 hl10
          have hLm := head_of hYe
          clear N8 hYe hAp hA9 hS9 hm9
          refine for_tupList (σ := Obj) (fun _ => []) (Str.ofString "some") [Str.ofString "once", Str.ofString "due"] (LpJ (L' + 1 + 1 + 1 + 1 + 1) _ _ _ _ (b, o2) Y rest) _ (by rfl) (fun v hv => let ⟨T, _, _, _, _, _, e, _⟩ := hDuo v hv; ⟨T, e⟩) (.tail _ (.tail _ (.tail _ (.tail _ (.tail _ (.tail _ (List.mem_append_left _ hLm))))))) (by k_asm) N9 (List.forall_mem_nil _) ⟨rfl, _, by assumption⟩ ?turnC ?doneC
          case turnC =>
            rintro i v oc nx u h7 tk7 own hv hln ⟨rfl, v0, hoc⟩ hoff F7 N7
            refine Mine.hideG ?_; intro gP_h hG_h; obtain ⟨T, A, R, as, k, rs', rfl, hT, hAm, hAr, hSr, hrl⟩ := hDuo v (List.mem_of_getElem? hv); refine hG_h ?_; (try clear hG_h)
            simp only [List.cons_append] at N7
            have hown : ∀ p ∈ own, p.1 ≠ L' + 1 + 1 + 1 + 1 + 1 := fun p hp => hoff p hp _ (List.mem_map.mpr ⟨_, .head _, rfl⟩)
            generalize hZe : Y ++ rest ++ own = Z at N7
            have hsubY : ∀ p ∈ Y, p ∈ Z := fun p hp => hZe ▸ List.mem_append_left _ (List.mem_append_left _ hp)
            have hTZ := hsubY _ hT
            have hAmZ := hsubY _ hAm
            have hArZ := hAr.mono hsubY
            have hSrZ := hSr.mono hsubY
            have hZ5 : ∀ p ∈ Z, p.1 ≠ L' + 1 + 1 + 1 + 1 + 1 := hZe ▸ off_app (off_app hY5 (ne_of_allLt l1.2 (Nat.le_add_right _ 5))) hown
            have hT9 := News.isTup N7 (.tail _ (.tail _ (.tail _ (.tail _ (.tail _ (.tail _ hTZ))))))
            k_steps
            refine Stop.go ?_
            k_dflt (refine Mine.assign_enum (_F₀ := by k_asm) (by rfl) (by with_unfolding_all rfl) (by with_unfolding_all rfl) (by decide) (by rfl) (by decide) (by rfl) (by rfl) (by decide +kernel) (by rfl) (by rfl) (by rfl) ?_)
            k_steps
            refine Stop.go ?_
            rename News _ _ _ _ => N10
            refine SrcE.call (fun i ys => Chs ys (sqz rs' (x.cps.toList.take i))) (by rfl) (by k_asm) N10 (by rw [PySem.sizeLine_eq]; have := hx; unfold Str.length at this; (first | lia | omega)) .nil ?turnD ?finD
            case turnD =>
              intro e it g
              unfold TurnE
              intro i ys cc t u oe oi C oC D m₂ h tk E' hcc hJ hC ha hb F N
              have hi9 : i < x.cps.size := (Array.getElem?_eq_some_iff.mp hcc).1
              have hxs : x.cps.size = x.length := rfl
              k_steps
              all_goals (refine EndE.intro (by k_asm) (by k_asm) ?_)
              all_goals (show Chs _ (sqz rs' _))
              all_goals first
                | (rw [sqz_due (get_cps hcc) (.inl (by (first | lia | omega)))]; exact hJ.snoc)
                | (rw [sqz_due (get_cps hcc) (.inr (.inl (due_ne (by assumption) hi9 (by assumption))))]; exact hJ.snoc)
                | (rw [sqz_due (get_cps hcc) (.inr (.inr (by assumption)))]; exact hJ.snoc)
                | (rw [sqz_not (get_cps hcc) (by (first | lia | omega)) (due_eq (by assumption) hi9 (by assumption)) (by assumption)]; exact hJ)
            case finD =>
              intro g ys3 hys3
              rw [List.take_of_length_le (by simp)] at hys3
              have hq1 := sqz_len rs' x.cps.toList
              have hq2 := sqz_idem rs' x.cps.toList
              have hle3 : (sqz rs' x.cps.toList).length ≤ 100000 := by (first | lia | omega)
              have hSq : (S (sqz rs' x.cps.toList)).length ≤ 1000 := by rw [← L_len, L_S]; (first | lia | omega)
              intro D12 h8 tk8 F8 N8 o12
              k_steps
              · exact bad_ne (by assumption)
              · exact bad_sqz (by assumption)
              · subst hZe
                rename News _ _ _ _ => N0
                rename Fr _ _ _ _ => F0
                exact lp_turn F0 N0 (by assumption) hLm hoff (List.forall_mem_nil _) (by kst_same)
          case doneC =>
            rintro oc nx u h7 tk7 ⟨rfl, v0, hoc⟩ F7 N7
            k_steps
            rename News _ _ _ _ => N11
            exact hret _ _ _ _ (by k_asm) (cb_drop (news := (b, o2) :: rest) N11 (fun p hp => .tail _ (.tail _ (.tail _ (.tail _ (.tail _ (by rcases List.mem_cons.mp hp with h | h; exact h ▸ .head _; exact .tail _ (List.mem_append_right _ h)))))))) ⟨_, rfl, hB2.mono (by (first | lia | omega)), rfl⟩
end
section
local macro_rules | `(tactic| k_mem) => `(tactic| first | k_extra "k_memS20" | k_extra "k_mem9")
local macro_rules | `(tactic| walk1) => `(tactic| first | k_extra "mineS20" | k_extra "hdr9")
theorem replacedright_spec : ReplacedRightS Mine.hd.heap_1 := by
  k_with_none
  k_with "memw" => first | with_reducible exact List.mem_cons_self | (with_reducible refine List.mem_cons_of_mem _ ?_; k_extra "memw") | with_reducible assumption | (with_reducible refine List.mem_append_left _ ?_; k_extra "memw") | (with_reducible refine List.mem_append_right _ ?_; k_extra "memw")
  k_with "sufw" => first | with_reducible exact Mine.sb_refl | with_reducible assumption | (with_reducible refine Mine.sb_tail ?_; k_extra "sufw") | (with_reducible refine Mine.sb_left ?_; k_extra "sufw") | (with_reducible refine Mine.sb_right ?_; k_extra "sufw")
  k_with "subw" => first | k_extra "sufw" | with_reducible exact Mine.sb_nil | (with_reducible refine Mine.sb_cons ?_ ?_; (k_extra "memw"); (k_extra "subw")) | (with_reducible refine Mine.sb_app ?_ ?_; (k_extra "subw"); (k_extra "subw"))
  k_with "inn" => first | with_reducible exact Mine.InN.here | (with_reducible refine Mine.InN.there ?_; k_extra "inn")
  k_with "alln" => first | with_reducible exact Mine.AllN.nil | (with_reducible refine Mine.AllN.co ?_; k_extra "alln") | (with_reducible refine Mine.AllN.nm ?_ ?_; (k_extra "inn"); (k_extra "alln"))
  k_with "evk" => first | ((with_reducible show Mine.Evs _ _ _ _ _ _); first | ((with_reducible apply Mine.Evs.at4 (by with_reducible assumption)); (k_extra "alln"); exact And.intro rfl rfl) | (with_reducible apply Mine.Evs.cons <;> k_extra "evk")) | ((with_reducible show Mine.Ev _ _ (PySem.Expr.Name _ _) _ _ _); (with_reducible apply Mine.Ev.at4 (by with_reducible assumption)); (k_extra "alln"); exact And.intro rfl rfl) | ((with_reducible show Mine.Ev _ _ (PySem.Expr.Constant _ _ _) _ _ _); exact Mine.Ev.atK (And.intro rfl rfl)) | (with_reducible apply Mine.Ev.add <;> k_extra "evk") | (with_reducible apply Mine.Ev.sub <;> k_extra "evk") | (with_reducible apply Mine.Ev.mul <;> first | k_extra "evk" | (try dsimp only; mul_fits)) | (with_reducible apply Mine.Ev.len; exact rfl; k_extra "evk"; first | with_reducible assumption | exact Nat.le_trans (by with_reducible assumption) (by decide) | omega) | exact Mine.EvO.no | (with_reducible apply Mine.EvO.so; k_extra "evk")
  k_with "k_size9" => (simp only [Array.size_push, List.size_toArray, List.length_cons, List.length_nil, List.length_append, List.nil_append, Array.size_empty, List.push_toArray]; first | decide | (first | lia | omega))
  k_with "top_raise09" => ((repeat (first | exact Mine.NeC.here | exact Mine.NeC.last | refine Mine.NeC.there ?_)); done)
  k_with "k_ne9" => ((try dsimp only); first | with_reducible assumption | exact Nat.succ_ne_self _ | exact (Nat.succ_ne_self _).symm | exact Nat.ne_of_lt (by with_reducible assumption) | exact Nat.ne_of_gt (by with_reducible assumption) | exact Mine.al0 (by with_reducible assumption) (by k_extra "memw") | exact Mine.au0 (by with_reducible assumption) (by k_extra "memw") | exact Mine.al1 (by with_reducible assumption) (by k_extra "memw") | exact Mine.al2 (by with_reducible assumption) (by k_extra "memw") | exact Mine.al3 (by with_reducible assumption) (by k_extra "memw") | exact Mine.al4 (by with_reducible assumption) (by k_extra "memw") | exact Mine.al5 (by with_reducible assumption) (by k_extra "memw") | exact Mine.au1 (by with_reducible assumption) (by k_extra "memw") | exact Mine.au2 (by with_reducible assumption) (by k_extra "memw") | exact Mine.au3 (by with_reducible assumption) (by k_extra "memw") | exact Mine.au4 (by with_reducible assumption) (by k_extra "memw") | exact Mine.au5 (by with_reducible assumption) (by k_extra "memw") | exact Mine.of0 (by with_reducible assumption) (by k_extra "memw") | exact Mine.of1 (by with_reducible assumption) (by k_extra "memw") | exact Mine.o1a (by with_reducible assumption) (by k_extra "memw") | exact Mine.o1b (by with_reducible assumption) (by k_extra "memw") | exact Mine.o3I (by with_reducible assumption) (by k_extra "memw") | exact Mine.o3C (by with_reducible assumption) (by k_extra "memw") | exact Mine.o3D (by with_reducible assumption) (by k_extra "memw") | exact Mine.o3i (by with_reducible assumption) (by k_extra "memw") | exact Mine.o3c (by with_reducible assumption) (by k_extra "memw") | exact Mine.o3d (by with_reducible assumption) (by k_extra "memw") | exact Mine.n3a (by with_reducible assumption) | exact Mine.n3b (by with_reducible assumption) | exact Mine.n3c (by with_reducible assumption) | exact Mine.n3d (by with_reducible assumption) | exact Mine.n3e (by with_reducible assumption) | exact Mine.n3f (by with_reducible assumption) | ((first | lia | omega)))
  k_with "k_room9" => first | exact Mine.rm0 (by with_reducible assumption) | exact Mine.rm1 (by with_reducible assumption) (by decide) | exact Mine.rm2 (by with_reducible assumption) (by decide) | decide | ktr_room
  k_with "k_units9" => first | exact Mine.rm0 (by with_reducible assumption) | exact Mine.rm1 (by with_reducible assumption) (by decide) | exact Mine.rm2 (by with_reducible assumption) (by decide) | decide | ktr_units
  k_with "k_all9" => first | with_reducible assumption | exact Mine.as0 (by with_reducible assumption) (by k_extra "subw") | exact Mine.as1 (by with_reducible assumption) (by k_extra "subw") | exact Mine.as2 (by with_reducible assumption) (by k_extra "subw") | exact Mine.as3 (by with_reducible assumption) (by k_extra "subw") | exact Mine.as4 (by with_reducible assumption) (by k_extra "subw") | exact Mine.as5 (by with_reducible assumption) (by k_extra "subw") | (with_reducible refine Mine.off_app ?_ ?_ <;> k_all) | exact Mine.ne_fresh2 (by assumption) (by k_extra "memw") | assumption | exact Mine.ne_of_allLt (by assumption) (by first | exact Nat.le_refl _ | exact Nat.le_succ _ | (first | lia | omega)) | exact Mine.ne_of_lt (by assumption) (by first | exact Nat.le_refl _ | exact Nat.le_succ _ | exact Nat.le_add_right _ 2 | exact Nat.le_add_right _ 3 | (first | lia | omega))
  k_with "k_updF9" => ((with_reducible refine' Mine.updF_app ?c8a ?c8b); (case c8b => k_all); (case c8a => k_updF))
  k_with "k_upd9" => ((with_reducible refine' Mine.upd_app ?c8a ?c8b); (case c8b => k_all); (case c8a => k_upd))
  k_with "k_mem9" => first | k_extra "memw" | exact List.mem_cons_self | ktr_member
  k_with "ksw_same9" => (intro z h2 h3; (repeat' (with_reducible refine Mine.if_skip ?_ ?_)); (all_goals (first | exact Mine.kst_keep' h2 h3 rfl | (have h4 := h2 _ (.head _); exact h4) | (have h4 := h2 _ (.tail _ (.head _)); exact h4) | (have h4 := h2 _ (.tail _ (.tail _ (.head _))); exact h4) | exact Mine.ne_stored h3 (by simp))))
  k_with "kst_same9" => (intro z h1 h2 h3; (repeat' (with_reducible refine Mine.if_skip ?_ ?_)); (all_goals (first | exact h1 | exact Mine.kst_keep' h2 h3 rfl | (have h4 := h2 _ (.head _); exact h4) | (have h4 := h2 _ (.tail _ (.head _)); exact h4) | (have h4 := h2 _ (.tail _ (.tail _ (.head _))); exact h4) | exact Mine.ne_stored h3 (by simp))))
  k_with "hdr9 eval" => with_reducible refine Mine.stop_comp ?_
  k_with "hdr9 eval" => ((with_reducible show PySem.wpAny _ _ (PySem.eval (PySem.Expr.BinOp _ _ _ _) _) _ _ _); (first | (k_dflt refine' Mine.ev_val ?c8o ?c8F ?c8X ?c8T ?c8l ?c8k ?c8v ?_; (case c8o => rfl); (case c8F => k_asm); (case c8X => k_asm); (case c8T => k_asm); (case c8l => first | with_reducible assumption | k_is); (case c8k => first | exact rfl | assumption); (case c8v => k_extra "evk"); k_whole) | (k_dflt refine' Mine.binop_ev ?c8o ?c8F ?c8X ?c8T ?c8l ?c8k ?c8v ?c8u ?_; (case c8o => rfl); (case c8F => k_asm); (case c8X => k_asm); (case c8T => k_asm); (case c8l => first | with_reducible assumption | k_is); (case c8k => first | exact rfl | assumption); (case c8v => k_extra "evk"); (case c8u => k_extra "evk"); k_whole)))
  k_with "hdr9 eval" => ((with_reducible show PySem.wpAny _ _ (PySem.eval (PySem.Expr.Call (PySem.Expr.Name _ _) (_ :: _) [] _) _) _ _ _); (first | (k_dflt refine' Mine.call_ev ?c8o ?c8F ?c8X ?c8T ?c8e ?c8l ?c8g ?c8k ?c8f ?c8d ?c8v ?c8p ?_; (case c8o => rfl); (case c8F => k_asm); (case c8X => k_asm); (case c8T => k_asm); (case c8l => first | with_reducible assumption | k_is); (case c8k => first | exact rfl | assumption); (case c8v => k_extra "evk"); (case c8f => exact rfl); (case c8d => decide); (case c8e => k_is); (case c8g => k_is); (case c8p => exact rfl); k_whole) | (k_dflt refine' Mine.callb_ev ?c8o ?c8F ?c8X ?c8T ?c8e ?c8b ?c8n ?c8l ?c8k ?c8f ?c8d ?c8v ?c8p ?_; (case c8o => rfl); (case c8F => k_asm); (case c8X => k_asm); (case c8T => k_asm); (case c8l => first | with_reducible assumption | k_is); (case c8k => first | exact rfl | assumption); (case c8v => k_extra "evk"); (case c8f => exact rfl); (case c8d => decide); (case c8e => k_is); (case c8b => boot_fast); (case c8n => decide); (case c8p => exact rfl); k_whole)))
  k_with "hdr9 eval" => ((with_reducible show PySem.wpAny _ _ (PySem.eval (PySem.Expr.Compare _ [_] [_] _) _) _ _ _); (k_dflt refine' Mine.cmp_ev ?c8o ?c8F ?c8X ?c8T ?c8l ?c8k ?c8v ?c8u ?c8b ?_; (case c8o => rfl); (case c8F => k_asm); (case c8X => k_asm); (case c8T => k_asm); (case c8l => first | with_reducible assumption | k_is); (case c8k => first | exact rfl | assumption); (case c8v => k_extra "evk"); (case c8u => k_extra "evk"); (case c8b => with_unfolding_all rfl); k_whole))
  k_with "hdr9 eval" => ((with_reducible show PySem.wpAny _ _ (PySem.eval (PySem.Expr.Slice _ _ none _) _) _ _ _); (fail_if_success (have := (by with_reducible assumption : Mine.Md 9))); (fail_if_success (have := (by with_reducible assumption : Mine.Md 22))); (k_dflt refine' Mine.slice_ev ?c8o ?c8F ?c8X ?c8T ?c8l ?c8k ?c8v ?c8u ?_; (case c8o => rfl); (case c8F => k_asm); (case c8X => k_asm); (case c8T => k_asm); (case c8l => first | with_reducible assumption | k_is); (case c8k => first | exact rfl | assumption); (case c8v => k_extra "evk"); (case c8u => k_extra "evk"); k_whole))
  k_with "hdr9 eval" => ((with_reducible show PySem.wpAny _ _ (PySem.eval (PySem.Expr.Subscript _ _ _) _) _ _ _); (k_dflt refine' Mine.sub_ev ?c8o ?c8F ?c8X ?c8T ?c8l ?c8k ?c8v ?c8u ?_; (case c8o => rfl); (case c8F => k_asm); (case c8X => k_asm); (case c8T => k_asm); (case c8l => first | with_reducible assumption | k_is); (case c8k => first | exact rfl | assumption); (case c8v => k_extra "evk"); (case c8u => k_extra "evk"); k_whole))
  k_with "hdr9 call" => ((with_reducible show PySem.wpAny _ _ (PySem.call (PySem.Value.builtin "len") [PySem.Value.str _ _]) _ _ _); (with_reducible refine Mine.len_s ?c8b ?_); (case c8b => first | with_reducible assumption | exact Nat.le_trans (by with_reducible assumption) (by decide)))
  k_with "hdr9 call" => ((with_reducible show PySem.wpAny _ _ (PySem.call (PySem.Value.ref _) _ _) _ _ _); k_dflt ((refine PySem.wpAny_call ?_); k_enter))
  k_with "hdr9 call" => ((with_reducible show PySem.wpAny _ _ (PySem.call (PySem.Value.ref _) _ _) _ _ _); k_extra "call ref")
  k_with "hdr9 call" => ((with_reducible show PySem.wpAny _ _ (PySem.call (PySem.Value.builtin "list.append") [PySem.Value.ref _, _] _) _ _ _); (k_dflt refine' Mine.append_led ?c8kf ?c8kn ?c8ku ?c8kz ?_; (case c8kf => k_asm); (case c8kn => k_asm); (case c8ku => k_upd); (case c8kz => (rw [PySem.sizeLine_eq]; first | decide | exact Nat.le_trans (by with_reducible assumption) (by decide) | exact Nat.le_trans (Nat.succ_le_succ (by with_reducible assumption)) (by decide) | (first | lia | omega))); k_whole); intro h_h F_h n_h N_h; (try dsimp only); (try k_fold))
  k_with "hdr9 call" => ((with_reducible show PySem.wpAny _ _ (PySem.call (PySem.Value.builtin "list.extend") [PySem.Value.ref _, PySem.Value.ref _] _) _ _ _); (k_dflt refine' Mine.extend_2 ?c8kf ?c8kn ?c8ku ?c8kv ?c8kz ?_; (case c8kf => k_asm); (case c8kn => k_asm); (case c8ku => k_ne); (case c8kv => k_all); (case c8kz => (rw [PySem.sizeLine_eq]; first | decide | exact Nat.le_trans (by with_reducible assumption) (by decide) | exact Nat.le_trans (Nat.succ_le_succ (by with_reducible assumption)) (by decide) | (first | lia | omega))); k_whole); intro h_h n_h F_h N_h; (try dsimp only); (try k_fold))
  k_with "hdr9 call" => ((with_reducible show PySem.wpAny _ _ (PySem.call (PySem.Value.builtin "len") [PySem.Value.ref _]) _ _ _); (k_dflt refine' PyProof.Rows.len_list ?c8kl ?c8kf ?_; (case c8kl => exact PyProof.Rows.News.isList (by k_asm) (by k_mem)); (case c8kf => (simp only [List.size_toArray]; (first | lia | omega))); k_whole); (try simp only [List.size_toArray]))
  k_with "hdr9 call" => ((with_reducible show PySem.wpAny _ _ (PySem.call (PySem.Value.builtin "str.join") [PySem.Value.str _ _, PySem.Value.ref _]) _ _ _); (k_dflt refine' Mine.call_join_chs ?c8kn ?c8km ?c8kc ?c8kb ?_; (case c8kn => k_asm); (case c8km => k_mem); (case c8kc => with_reducible assumption); (case c8kb => first | with_reducible assumption | (first | lia | omega)); k_whole); intro t_h k_h; (try dsimp only); (try k_fold))
  k_with "hdr9 call" => with_reducible refine Mine.stop_enum ?_
  k_with "hdr9 call" => ((with_reducible show PySem.wpAny _ _ (PySem.call (PySem.Value.builtin "sorted") [PySem.Value.ref _]) _ _ _); (k_dflt refine' Mine.sorted_two ?c8hF ?c8hN ?c8h1 ?_; (case c8hF => k_asm); (case c8hN => k_asm); (case c8h1 => k_mem)); intro d_h h_h lo_h hi_h t_h u_h e_h F_h n_h N_h l_h hlo_h hab_h; (try dsimp only); (try k_fold))
  k_with "hdr9 call" => ((with_reducible show PySem.wpAny _ _ (PySem.call (PySem.Value.builtin "str.join") [PySem.Value.str _ _, PySem.Value.ref _]) _ _ _); (k_dflt refine' Mine.call_join_tok ?c8kn ?c8km ?c8kc ?c8kb ?c8k0 ?c8ky ?_; (case c8kn => k_asm); (case c8km => k_mem); (case c8kc => with_reducible assumption); (case c8kb => first | with_reducible assumption | (first | lia | omega)); (case c8k0 => with_reducible assumption); (case c8ky => with_reducible assumption); k_whole); intro t_h k_h le_h p_h lt_h; (try dsimp only at le_h); (try dsimp only); (try k_fold))
  k_with "hdr9 exec" => with_reducible refine Mine.stop_for ?_
  k_with "hdr9 exec" => with_reducible refine Mine.stop_while ?_
  k_with "hdr9 exec" => with_reducible refine Mine.stop_asg ?_
  k_with "hdr9 exec" => ((with_reducible show PySem.wpAny _ _ (PySem.exec (PySem.Stmt.Assign [PySem.Expr.Name _ _] _ _) _) _ _ _); (k_dflt refine' Mine.asg_ev ?c8o ?c8F ?c8N ?c8X ?c8T ?c8l ?c8k ?c8v ?c8x ?c8s ?_; (case c8N => k_asm); (case c8F => k_asm); (case c8X => k_asm); (case c8T => k_asm); (case c8l => first | with_reducible assumption | k_is); (case c8k => first | exact rfl | assumption); (case c8v => k_extra "evk"); (case c8x => exact rfl); (case c8s => exact rfl); k_whole); intro h_h m_h F_h N_h; (try k_sweep))
  k_with "hdr9 exec" => ((with_reducible show PySem.wpAny _ _ (PySem.exec (PySem.Stmt.Return (some _) _) _) _ _ _); (k_dflt refine' Mine.ret_ev ?c8o ?c8F ?c8X ?c8T ?c8l ?c8k ?c8v ?_; (case c8o => rfl); (case c8F => k_asm); (case c8X => k_asm); (case c8T => k_asm); (case c8l => first | with_reducible assumption | k_is); (case c8k => first | exact rfl | assumption); (case c8v => k_extra "evk"); k_whole))
  k_with "hdr9 subscriptTail" => ((with_reducible show PySem.wpAny _ _ (PyProof.Rows.subscriptTail _ _ (PySem.Value.str _ _) (PySem.Value.int _ _)) _ _ _); (k_dflt refine' Mine.item_s ?c8x ?c8y ?c8b ?c8s ?c8t ?_; (case c8x => first | with_reducible assumption | exact Int.natCast_nonneg _ | exact Mine.nn1 | exact Mine.nn2); (case c8y => with_reducible assumption); (case c8b => first | with_reducible assumption | exact Nat.le_trans (by with_reducible assumption) (by decide)); (case c8s => with_unfolding_all rfl); (case c8t => (intro _; with_unfolding_all rfl)); k_whole); intro _)
  k_with "hdr9 subscriptTail" => ((with_reducible show PySem.wpAny _ _ (PyProof.Rows.subscriptTail _ _ (PySem.Value.ref _) (PySem.Value.int 0 _)) _ _ _); (k_dflt refine' Mine.item_0 ?c8ki ?c8kj ?_; (case c8ki => k_asm); (case c8kj => k_mem); k_whole))
  k_with "hdr9 subscriptTail" => ((with_reducible show PySem.wpAny _ _ (PyProof.Rows.subscriptTail _ _ (PySem.Value.ref _) (PySem.Value.int 1 _)) _ _ _); (k_dflt refine' Mine.item_1 ?c8ki ?c8kj ?_; (case c8ki => k_asm); (case c8kj => k_mem); k_whole))
  k_with "hdr9 subscriptTail" => ((with_reducible show PySem.wpAny _ _ (PyProof.Rows.subscriptTail _ _ (PySem.Value.ref _) (PySem.Value.int 2 _)) _ _ _); (k_dflt refine' Mine.item_2 ?c8ki ?c8kj ?_; (case c8ki => k_asm); (case c8kj => k_mem); k_whole))
  k_with "hdr9 subscriptTail" => ((with_reducible show PySem.wpAny _ _ (PyProof.Rows.subscriptTail _ _ (PySem.Value.ref _) (PySem.Value.int 3 _)) _ _ _); (k_dflt refine' Mine.item_3 ?c8ki ?c8kj ?_; (case c8ki => k_asm); (case c8kj => k_mem); k_whole))
  k_with "hdr9 subscriptTail" => ((with_reducible show PySem.wpAny _ _ (PyProof.Rows.subscriptTail _ _ (PySem.Value.ref _) (PySem.Value.int (-1) _)) _ _ _); (k_dflt refine' Mine.item_last ?c8ki ?c8kj ?_; (case c8ki => k_asm); (case c8kj => k_mem); k_whole))
  k_with "hdr9 subscriptTail" => ((with_reducible show PySem.wpAny _ _ (PyProof.Rows.subscriptTail _ (PySem.Expr.Call _ _ _ _) (PySem.Value.str _ _) (PySem.Value.int _ _)) _ _ _); (k_dflt refine' Mine.item_pick ?c8h0 ?c8h1 ?c8hx ?_; (case c8h0 => (first | lia | omega)); (case c8h1 => (first | lia | omega)); (case c8hx => (first | lia | omega))); intro c_h hc_h; (try dsimp only); (try k_fold))
  k_with "hdr9 isTrue" => ((with_reducible show PySem.wpAny _ _ (PySem.isTrue (PySem.Expr.Compare _ [_] [_] _) _ _) _ _ _); (k_dflt refine' Mine.isTc_ev ?c8o ?c8F ?c8X ?c8T ?c8l ?c8k ?c8v ?c8u ?c8b ?_; (case c8o => rfl); (case c8F => k_asm); (case c8X => k_asm); (case c8T => k_asm); (case c8l => first | with_reducible assumption | k_is); (case c8k => first | exact rfl | assumption); (case c8v => k_extra "evk"); (case c8u => k_extra "evk"); (case c8b => with_unfolding_all rfl); k_whole))
  k_with "hdr9 isTrue" => ((with_reducible show PySem.wpAny _ _ (PySem.isTrue (PySem.Expr.Compare _ [PySem.CmpOp.Lt] [_] _) _ _) _ _ _); (k_dflt refine' Mine.isT_lt ?c8o ?c8F ?c8X ?c8T ?c8l ?c8k ?c8v ?c8u ?c8b ?_ ?_; (case c8o => rfl); (case c8F => k_asm); (case c8X => k_asm); (case c8T => k_asm); (case c8l => first | with_reducible assumption | k_is); (case c8k => first | exact rfl | assumption); (case c8v => k_extra "evk"); (case c8u => k_extra "evk"); (case c8b => with_unfolding_all rfl)); all_goals (intro a_h; first | exact absurd a_h (by decide) | exact absurd (by decide) a_h | exact absurd a_h (Int.not_lt.mpr (Int.natCast_nonneg _)) | exact absurd (Int.natCast_nonneg _) a_h | skip))
  k_with "hdr9 isTrue" => ((with_reducible show PySem.wpAny _ _ (PySem.isTrue (PySem.Expr.Compare _ [PySem.CmpOp.LtE] [_] _) _ _) _ _ _); (k_dflt refine' Mine.isT_le ?c8o ?c8F ?c8X ?c8T ?c8l ?c8k ?c8v ?c8u ?c8b ?_ ?_; (case c8o => rfl); (case c8F => k_asm); (case c8X => k_asm); (case c8T => k_asm); (case c8l => first | with_reducible assumption | k_is); (case c8k => first | exact rfl | assumption); (case c8v => k_extra "evk"); (case c8u => k_extra "evk"); (case c8b => with_unfolding_all rfl)); all_goals (intro a_h; first | exact absurd a_h (by decide) | exact absurd (by decide) a_h | exact absurd a_h (Int.not_lt.mpr (Int.natCast_nonneg _)) | exact absurd (Int.natCast_nonneg _) a_h | skip))
  k_with "hdr9 isTrue" => ((with_reducible show PySem.wpAny _ _ (PySem.isTrue (PySem.Expr.Compare _ [PySem.CmpOp.Gt] [_] _) _ _) _ _ _); (k_dflt refine' Mine.isT_gt ?c8o ?c8F ?c8X ?c8T ?c8l ?c8k ?c8v ?c8u ?c8b ?_ ?_; (case c8o => rfl); (case c8F => k_asm); (case c8X => k_asm); (case c8T => k_asm); (case c8l => first | with_reducible assumption | k_is); (case c8k => first | exact rfl | assumption); (case c8v => k_extra "evk"); (case c8u => k_extra "evk"); (case c8b => with_unfolding_all rfl)); all_goals (intro a_h; first | exact absurd a_h (by decide) | exact absurd (by decide) a_h | exact absurd a_h (Int.not_lt.mpr (Int.natCast_nonneg _)) | exact absurd (Int.natCast_nonneg _) a_h | skip))
  k_with "hdr9 isTrue" => ((with_reducible show PySem.wpAny _ _ (PySem.isTrue (PySem.Expr.Compare _ [PySem.CmpOp.GtE] [_] _) _ _) _ _ _); (k_dflt refine' Mine.isT_ge ?c8o ?c8F ?c8X ?c8T ?c8l ?c8k ?c8v ?c8u ?c8b ?_ ?_; (case c8o => rfl); (case c8F => k_asm); (case c8X => k_asm); (case c8T => k_asm); (case c8l => first | with_reducible assumption | k_is); (case c8k => first | exact rfl | assumption); (case c8v => k_extra "evk"); (case c8u => k_extra "evk"); (case c8b => with_unfolding_all rfl)); all_goals (intro a_h; first | exact absurd a_h (by decide) | exact absurd (by decide) a_h | exact absurd a_h (Int.not_lt.mpr (Int.natCast_nonneg _)) | exact absurd (Int.natCast_nonneg _) a_h | skip))
  k_with "hdr9 isTrue" => ((with_reducible show PySem.wpAny _ _ (PySem.isTrue (PySem.Expr.Compare _ [PySem.CmpOp.Eq] [_] _) _ _) _ _ _); (k_dflt refine' Mine.isT_eq ?c8o ?c8F ?c8X ?c8T ?c8l ?c8k ?c8v ?c8u ?c8b ?_ ?_; (case c8o => rfl); (case c8F => k_asm); (case c8X => k_asm); (case c8T => k_asm); (case c8l => first | with_reducible assumption | k_is); (case c8k => first | exact rfl | assumption); (case c8v => k_extra "evk"); (case c8u => k_extra "evk"); (case c8b => with_unfolding_all rfl)); all_goals (intro a_h; first | exact absurd a_h (by decide) | exact absurd (by decide) a_h | exact absurd a_h (Int.not_lt.mpr (Int.natCast_nonneg _)) | exact absurd (Int.natCast_nonneg _) a_h | skip))
  k_with "hdr9 isTrue" => ((with_reducible show PySem.wpAny _ _ (PySem.isTrue (PySem.Expr.Compare _ [PySem.CmpOp.NotEq] [_] _) _ _) _ _ _); (k_dflt refine' Mine.isT_ne ?c8o ?c8F ?c8X ?c8T ?c8l ?c8k ?c8v ?c8u ?c8b ?_ ?_; (case c8o => rfl); (case c8F => k_asm); (case c8X => k_asm); (case c8T => k_asm); (case c8l => first | with_reducible assumption | k_is); (case c8k => first | exact rfl | assumption); (case c8v => k_extra "evk"); (case c8u => k_extra "evk"); (case c8b => with_unfolding_all rfl)); all_goals (intro a_h; first | exact absurd a_h (by decide) | exact absurd (by decide) a_h | exact absurd a_h (Int.not_lt.mpr (Int.natCast_nonneg _)) | exact absurd (Int.natCast_nonneg _) a_h | skip))
  k_with "hdr9 execs" => ((with_reducible show PySem.wpAny _ _ (PySem.execs (_ :: _) _) _ _ _); (try ((fail_if_success (fail_if_success (with_reducible show PySem.wpAny _ _ _ _ _ (PySem.Shared.mk _ _ _ (_ + 1) _)))); (with_reducible refine Mine.toksg ?_); intro tk_h)); (with_reducible refine Mine.opq ?_); intro Qs_h hQs_h)
  k_with "hdr9 execs" => ((with_reducible show PySem.wpAny _ _ (PySem.execs (_ :: _) _) _ _ _); (fail_if_success (fail_if_success (first | with_reducible refine Mine.isS (by with_reducible assumption) ?_ | with_reducible refine Mine.isO (by with_reducible assumption) ?_))); first | ((fail_if_success (fail_if_success (with_reducible show PySem.wpAny _ _ _ _ _ (PySem.Shared.mk _ _ _ (_ + 1) _)))); first | ((with_reducible refine Mine.execs_oneg ?_); intro tk_h) | ((with_reducible refine Mine.opqSg ?_); intro tk_h Qs_h hQs_h)) | (with_reducible refine Mine.execs_one ?_) | ((with_reducible refine Mine.opqS ?_); intro Qs_h hQs_h))
  k_with "hdr9 storeName" => ((with_reducible show PySem.wpAny _ _ (PySem.storeName _ _ _) _ _ _); (k_dflt refine' Mine.store_c ?c8F ?c8N ?c8c ?c8U ?c8d ?_ ?c8a ?c8b; (case c8a => first | exact rfl | assumption); (case c8b => exact rfl); (case c8F => k_asm); (case c8N => k_asm); (case c8c => exact rfl); (case c8U => k_updF); (case c8d => k_asm); k_whole); intro h_h o_h F_h n_h N_h d_h; (try k_sweep))
  k_with "hdr9 storeName" => ((with_reducible show PySem.wpAny _ _ (PySem.storeName _ _ _) _ _ _); (k_dflt refine' Mine.store_u ?c8F ?c8N ?_ ?c8a ?c8b; (case c8F => k_asm); (case c8N => k_asm); (case c8a => first | exact rfl | assumption); (case c8b => exact rfl); k_whole); intro h_h m_h F_h N_h; (try k_sweep))
  k_with "hdr9 binaryOp" => ((with_reducible show PySem.wpAny _ _ (PySem.binaryOp PySem.Operator.Add (PySem.Value.ref _) (PySem.Value.ref _)) _ _ _); (k_dflt refine' Mine.add_led ?c8hF ?c8hN ?c8h1 ?c8h2 ?c8hz ?_; (case c8hF => k_asm); (case c8hN => k_asm); (case c8h1 => k_mem); (case c8h2 => k_mem); (case c8hz => ((try simp only [List.length_cons, List.length_nil]); first | exact Nat.le_trans (Nat.add_le_add_right (by with_reducible assumption) _) (by decide) | (first | lia | omega)))); intro d_h h_h F_h n_h N_h l_h; (try dsimp only); (try k_fold))
  k_with "hdr9 spliced" => ((with_reducible show PySem.wpAny _ _ (PySem.spliced (PySem.backTo _ (PySem.starEach (_ :: _) _))) _ _ _); (k_dflt refine' Mine.args_ev ?c8o ?c8F ?c8X ?c8T ?c8l ?c8k ?c8v ?_; (case c8o => rfl); (case c8F => k_asm); (case c8X => k_asm); (case c8T => k_asm); (case c8l => first | with_reducible assumption | k_is); (case c8k => first | exact rfl | assumption); (case c8v => k_extra "evk"); k_whole); (try dsimp only [List.nil_append, List.cons_append]))
  k_with "hdr9 pyIter" => with_reducible refine Mine.stop_iter ?_
  k_with "hdr9 newList" => ((with_reducible show PySem.wpAny _ _ (PySem.newList _) _ _ _); (k_dflt refine' Mine.newList_L ?c8F ?c8N ?c8z ?_; (case c8F => k_asm); (case c8N => k_asm); (case c8z => first | exact Nat.le_of_ble_eq_true rfl | size_fits); k_whole); intro l_h h_h F_h n_h N_h a_h; (try k_sweep))
  k_with "hdr9 newTuple" => ((with_reducible show PySem.wpAny _ _ (PySem.newTuple _) _ _ _); (k_dflt refine' Mine.newTuple_L ?c8F ?c8N ?c8z ?_; (case c8F => k_asm); (case c8N => k_asm); (case c8z => first | exact Nat.le_of_ble_eq_true rfl | size_fits); k_whole); intro l_h h_h F_h n_h N_h a_h; (try k_sweep))
  k_with "hdr9 other" => (with_reducible refine Mine.SubQ.go (by with_reducible assumption) ?_; (try dsimp only))
  k_with "hdr9 other" => with_reducible refine Mine.SeqQ.cont (by with_reducible assumption) ?_
  k_with "hdr9 other" => with_reducible refine Mine.SeqQ.brk (by with_reducible assumption) ?_
  k_with "hdr9 other" => with_reducible refine Mine.SeqQ.ret (by with_reducible assumption) ?_
  k_with "hdr9 other" => with_reducible refine Mine.CyQ.out (by with_reducible assumption) (by with_reducible assumption) (by with_reducible assumption) ?_
  k_with "hdr9 other" => ((with_reducible refine Mine.CtQ.both (by with_reducible assumption) (by with_reducible assumption) (by with_reducible assumption) ?_ ?_) <;> intro b_h)
  k_with "hdr9 other" => with_reducible refine Mine.CtQ.no (by with_reducible assumption) (by with_reducible assumption) (by with_reducible assumption) ?_
  k_with "hdr9 other" => with_reducible refine Mine.CtQ.yes (by with_reducible assumption) ?_
  k_with "hdr9 other" => with_reducible refine Mine.SeqQ.next (by with_reducible assumption) ?_
  k_with "hdr9 other" => with_reducible refine Mine.stop_ksw ?_
  k_with "hdr9 other" => with_reducible refine Mine.stop_src ?_
  k_with "hdr9 other" => with_reducible refine Mine.stop_srcT ?_
  k_with "hdr9 other" => with_reducible refine Mine.stop_srcS ?_
  k_with "hdr9 other" => with_reducible refine Mine.stop_end ?_
  k_with "hdr9 other" => with_reducible refine Mine.stop_turn ?_
  k_with "hdr9 other" => with_reducible refine Mine.stop_turnC ?_
  k_with "hdr9 other" => with_reducible refine Mine.TurnP.ret ?_
  k_with "hdr9" => (first | ((with_reducible show PySem.wpAny _ _ _ _ _ _); first | ((with_reducible show PySem.wpAny _ _ (PySem.eval _ _) _ _ _); k_extra "hdr9 eval") | ((with_reducible show PySem.wpAny _ _ (PySem.call _ _ _) _ _ _); k_extra "hdr9 call") | ((with_reducible show PySem.wpAny _ _ (PySem.exec _ _) _ _ _); k_extra "hdr9 exec") | ((with_reducible show PySem.wpAny _ _ (PyProof.Rows.subscriptTail _ _ _ _) _ _ _); k_extra "hdr9 subscriptTail") | ((with_reducible show PySem.wpAny _ _ (PySem.isTrue _ _ _) _ _ _); k_extra "hdr9 isTrue") | ((with_reducible show PySem.wpAny _ _ (PySem.execs _ _) _ _ _); k_extra "hdr9 execs") | ((with_reducible show PySem.wpAny _ _ (PySem.storeName _ _ _) _ _ _); k_extra "hdr9 storeName") | ((with_reducible show PySem.wpAny _ _ (PySem.binaryOp _ _ _) _ _ _); k_extra "hdr9 binaryOp") | ((with_reducible show PySem.wpAny _ _ (PySem.spliced _) _ _ _); k_extra "hdr9 spliced") | ((with_reducible show PySem.wpAny _ _ (PySem.pyIter _) _ _ _); k_extra "hdr9 pyIter") | ((with_reducible show PySem.wpAny _ _ (PySem.newList _) _ _ _); k_extra "hdr9 newList") | ((with_reducible show PySem.wpAny _ _ (PySem.newTuple _) _ _ _); k_extra "hdr9 newTuple") | fail) | ((fail_if_success (with_reducible show PySem.wpAny _ _ _ _ _ _)); k_extra "hdr9 other"))
  k_with "k_memS20" => ((fail_if_success (fail_if_success (have := (by with_reducible assumption : Mine.Md 20)))); with_reducible assumption)
  k_with "mineS20 eval" => ((with_reducible show PySem.wpAny _ _ (PySem.eval (PySem.Expr.IfExp _ _ _ _) _) _ _ _); (fail_if_success (fail_if_success (have := (by with_reducible assumption : Mine.Md 20)))); with_reducible refine Mine.stop_ifexp ?_)
  k_with "mineS20 execs" => ((with_reducible show PySem.wpAny _ _ (PySem.execs (_ :: _) _) _ _ _); (fail_if_success (fail_if_success (have := (by with_reducible assumption : Mine.Md 24)))); (try dsimp only); first | ((fail_if_success (fail_if_success (first | with_reducible refine Mine.isS (by with_reducible assumption) ?_ | with_reducible refine Mine.isO (by with_reducible assumption) ?_))); first | (with_reducible refine Mine.execs_one ?_) | ((with_reducible refine Mine.opqS ?_); intro Qs_h hQs_h)) | ((with_reducible refine Mine.opq ?_); intro Qs_h hQs_h))
  k_with "mineS20 compareOp" => ((with_reducible show PySem.wpAny _ _ (PySem.compareOp PySem.CmpOp.Eq (PySem.Value.ref _) (PySem.Value.ref _)) _ _ _); (fail_if_success (fail_if_success (have := (by with_reducible assumption : Mine.Md 20)))); with_reducible refine Mine.Stop.out ?_)
  k_with "mineS20" => (first | ((with_reducible show PySem.wpAny _ _ _ _ _ _); first | ((with_reducible show PySem.wpAny _ _ (PySem.eval _ _) _ _ _); k_extra "mineS20 eval") | ((with_reducible show PySem.wpAny _ _ (PySem.execs _ _) _ _ _); k_extra "mineS20 execs") | ((with_reducible show PySem.wpAny _ _ (PySem.compareOp _ _ _) _ _ _); k_extra "mineS20 compareOp") | fail))
  intro w x y z tx ty tz news hx hy hz hx1 hy1 hty htz htt
  have hmd : Md 20 := Md.on 20
  k_with "call ref" => ((with_reducible show PySem.wpAny _ _ (PySem.call (PySem.Value.ref 468) _ _) _ _ _); k_dflt (refine' Mine.Fn.useL (spots_spec _ _ _ _ _ _ ?c7hx ?c7hy) ?c7k1 ?c7k2 ?c7k3 ?c7k4 ?c7k5 ?c7kK ?c7kd ?c7ku ?_; (case c7k1 => k_asm); (case c7k2 => k_asm); (case c7k3 => k_asm); (case c7k4 => k_asm); (case c7k5 => k_asm); (case c7hx => first | with_reducible assumption | exact Nat.le_trans (by with_reducible assumption) (by decide) | (first | lia | omega)); (case c7hy => first | with_reducible assumption | exact Nat.le_trans (by with_reducible assumption) (by decide) | (first | lia | omega)); (case c7kK => first | exact rfl | assumption); (case c7kd => k_room); (case c7ku => k_units)); intro a9 vs9 k9 h9 tk9 le9 F9 n9 N9 hC9 l9; (try dsimp only at le9); have hl9 := Mine.Nats.length hC9; (try dsimp only); (try k_fold))
  k_with "call ref" => ((with_reducible show PySem.wpAny _ _ (PySem.call (PySem.Value.ref 441) _ _) _ _ _); k_dflt (refine' Mine.thing_use thing_spec ?c7k1 ?c7k2 ?c7k3 ?c7k4 ?c7k5 ?c7kK ?c7kd ?c7ku ?_; (case c7k1 => k_asm); (case c7k2 => k_asm); (case c7k3 => k_asm); (case c7k4 => k_asm); (case c7k5 => k_asm); (case c7kK => first | exact rfl | assumption); (case c7kd => k_room); (case c7ku => k_units)); intro a9 dx9 f9 q1 q2 q3 q4 q5 q6 q7 q0 h9 tk9 le9 F9 n9 N9 l9 d9 m9; (try dsimp only at le9); have e9 : @LT.lt Nat _ dx9 a9 := d9; (try dsimp only); (try k_fold))
  k_with "call ref" => ((with_reducible show PySem.wpAny _ _ (PySem.call (PySem.Value.ref 413) _ _) _ _ _); k_dflt (refine' Mine.Fn.useG (repfirst_spec _ _ _ _ _ _ _ _ _ _ _ _ ?c7hT1 ?c7hT2 ?c7hu ?c7hv ?c7huv ?c7hm ?c7hx ?c7hz) ?c7k1 ?c7k2 ?c7k3 ?c7k4 ?c7k5 ?c7kK ?c7kd ?c7ku ?_; (case c7k1 => k_asm); (case c7k2 => k_asm); (case c7k3 => k_asm); (case c7k4 => k_asm); (case c7k5 => k_asm); (case c7hm => k_mem); (case c7hT1 => exact Mine.thing_in (by k_mem) (by k_mem)); (case c7hT2 => exact Mine.thing_in (by k_mem) (by k_mem)); (case c7hu => first | with_reducible assumption | exact Nat.succ_ne_zero _ | exact Nat.ne_of_gt (by (first | lia | omega))); (case c7hv => first | with_reducible assumption | exact Nat.succ_ne_zero _ | exact Nat.ne_of_gt (by (first | lia | omega))); (case c7huv => first | with_reducible assumption | (intro e9; exact absurd e9 (Nat.ne_of_lt (by (first | lia | omega)))) | (intro e9; exact absurd e9 (Nat.ne_of_gt (by (first | lia | omega))))); (case c7hx => first | with_reducible assumption | exact Nat.le_trans (by with_reducible assumption) (by decide) | (first | lia | omega)); (case c7hz => first | with_reducible assumption | exact Nat.le_trans (by with_reducible assumption) (by decide) | (first | lia | omega)); (case c7kK => first | exact rfl | assumption); (case c7kd => k_room); (case c7ku => k_units)); intro t9 h9 tk9 le9 F9 N9; (try dsimp only at le9); (try dsimp only); (try k_fold))
  k_with "call ref" => ((with_reducible show PySem.wpAny _ _ (PySem.call (PySem.Value.ref 420) _ _) _ _ _); k_dflt (refine' Mine.Fn.useG (repall_spec _ _ _ _ _ _ _ _ _ _ _ _ ?c7hT1 ?c7hT2 ?c7hu ?c7hv ?c7huv ?c7hm ?c7hx ?c7hz ?c7hr) ?c7k1 ?c7k2 ?c7k3 ?c7k4 ?c7k5 ?c7kK ?c7kd ?c7ku ?_; (case c7k1 => k_asm); (case c7k2 => k_asm); (case c7k3 => k_asm); (case c7k4 => k_asm); (case c7k5 => k_asm); (case c7hm => k_mem); (case c7hT1 => exact Mine.thing_in (by k_mem) (by k_mem)); (case c7hT2 => exact Mine.thing_in (by k_mem) (by k_mem)); (case c7hu => first | with_reducible assumption | exact Nat.succ_ne_zero _ | exact Nat.ne_of_gt (by (first | lia | omega))); (case c7hv => first | with_reducible assumption | exact Nat.succ_ne_zero _ | exact Nat.ne_of_gt (by (first | lia | omega))); (case c7huv => first | with_reducible assumption | (intro e9; exact absurd e9 (Nat.ne_of_lt (by (first | lia | omega)))) | (intro e9; exact absurd e9 (Nat.ne_of_gt (by (first | lia | omega))))); (case c7hx => first | with_reducible assumption | exact Nat.le_trans (by with_reducible assumption) (by decide) | (first | lia | omega)); (case c7hz => first | with_reducible assumption | exact Nat.le_trans (by with_reducible assumption) (by decide) | (first | lia | omega)); (case c7hr => with_reducible assumption); (case c7kK => first | exact rfl | assumption); (case c7kd => k_room); (case c7ku => k_units)); intro t9 h9 tk9 le9 F9 N9; (try dsimp only at le9); (try dsimp only); (try k_fold))
  k_with "call ref" => ((with_reducible show PySem.wpAny _ _ (PySem.call (PySem.Value.ref 475) _ _) _ _ _); k_dflt (refine' Mine.Fn.useL (apart_spec _ _ _ _ _ _ ?c7hx ?c7hy) ?c7k1 ?c7k2 ?c7k3 ?c7k4 ?c7k5 ?c7kK ?c7kd ?c7ku ?_; (case c7k1 => k_asm); (case c7k2 => k_asm); (case c7k3 => k_asm); (case c7k4 => k_asm); (case c7k5 => k_asm); (case c7hx => first | with_reducible assumption | exact Nat.le_trans (by with_reducible assumption) (by decide) | (first | lia | omega)); (case c7hy => first | with_reducible assumption | exact Nat.le_trans (by with_reducible assumption) (by decide) | (first | lia | omega)); (case c7kK => first | exact rfl | assumption); (case c7kd => k_room); (case c7ku => k_units)); intro a9 vs9 k9 h9 tk9 le9 F9 n9 N9 hC9 l9; (try dsimp only at le9); have hl9 := Mine.Nats.length hC9; (try dsimp only); (try k_fold))
  unfold FnT
  intro p loose mean mg mb dp un gd cn cs a ccd cl outer A₀ base h₀ L m s Q E htk B F X N T hk hd hu hret
  refine wpAny_call ?_
  k_dflt (refine' Mine.code_defCT [Str.ofString "text", Str.ofString "sought", Str.ofString "fresh"] [(Str.ofString "sought", _), (Str.ofString "text", _)] (fun L' => [(L' + 1, some (.str z tz))]) ?k1 ?k2 ?k3 ?k4 ?k5 ?kA ?kF ?kK ?k6 ?k7 ?k8 ?k9 ?kB ?kD ?kE ?kG ?_ ?c2 ?c3 ?c4; (case kA => exact rfl); (case kF => exact rfl); (case kK => assumption); (case k1 => k_asm); (case k2 => k_asm); (case k3 => k_asm); (case k4 => k_asm); (case k5 => k_asm); (case k6 => k_is); (case k7 => k_is); (case k8 => first | exact Mine.rm0 (by with_reducible assumption) | ktr_room); (case k9 => exact rfl); (case kB => exact rfl); (case kD => decide +kernel); (case kE => exact rfl); (case kG => exact fun _ => rfl); (case c2 => exact rfl); (case c3 => exact rfl); (case c4 => exact rfl); k_whole; intro g' L' h' tk' lek' FG' F' B' X' T' l1 o' d1' N' e_h A_h; (try k_lift B'); (try k_fold))
  refine Mine.opq ?_
  intro Qr hQr
  have hlocs_h : Mine.Names [Str.ofString "text", Str.ofString "sought", Str.ofString "spots", Str.ofString "args", Str.ofString "first", Str.ofString "apart", Str.ofString "made", Str.ofString "at", Str.ofString "spot", Str.ofString "answer", Str.ofString "marked"] := trivial
  have hlen_h := Mine.len_of (by assumption) (by k_is)
  rename Fr _ _ _ _ => F0_h
  replace F0_h : Fr _ _ _ (Mine.lk [(Str.ofString "sought", _), (Str.ofString "text", _)]) := F0_h
  skip
  have htk1 : @LT.lt Nat _ ty s.toks := htk.1
  have htk2 : @LT.lt Nat _ tz s.toks := htk.2
  k_dflt refine execs_app (pre := [_, _, _, _, _, _, _, _, _, _]) ?_
  have hty0 : ty ≠ 0 := Nat.ne_of_gt hty
  have htz0 : tz ≠ 0 := Nat.ne_of_gt htz
  have hyl : y.cps.toList.length = y.length := L_len y
  have hxl : x.cps.toList.length = x.length := L_len x
  have hr1 : (Txt.replace x y z).length ≤ 20000 := rep_le20 hx hz (by decide)
  k_steps
  refine Stop.go ?_
  refine cut_str (X := firstT x y z (spots x.cps.toList y.cps.toList)) (by k_asm) (by k_asm) ?_ ?_
  · walk_at "eval IfExp"
    k_steps
    refine Stop.go ?_
    refine eq_nil (by k_asm) (by k_mem) (by k_mem) (by first | k_units | ktr_units | units_room) ?_
    rw [isEmpty_len hl9]
    rcases hsp : spots x.cps.toList y.cps.toList with _ | ⟨s0, r⟩
    · rw [hsp] at hC9
      obtain rfl := Nats.nilL hC9
      rw [List.isEmpty_nil]
      k_steps
      rename News _ _ _ _ => N3
      exact ⟨_, _, _, rfl, rfl, by k_asm, cb_drop N3 (fun p hp => by first | exact hp | exact .tail _ hp)⟩
    · have hs0 := spots_le s0 (hsp ▸ List.mem_cons_self)
      rw [hsp] at hC9
      refine Mine.hideG ?_; intro gP_h hG_h; obtain ⟨t0, vs', rfl, hC'⟩ := Nats.consL hC9; refine hG_h ?_; (try clear hG_h)
      rw [List.isEmpty_cons]
      k_steps
      rename News _ _ _ _ => N3
      exact ⟨_, _, _, rfl, rfl, by k_asm, cb_drop N3 (fun p hp => by first | exact hp | exact .tail _ hp)⟩
  · intro tF h8 tk8 le8 F8 N8
    dsimp only at le8
    k_steps
    · exact bad_first (by assumption)
    · have hye := str_eq_of (by assumption : (y == Str.ofString "") = true)
      refine Stop.go ?_
      k_dflt (refine Mine.ListComp_strU (_F₀ := by k_asm) (by rfl) (by with_unfolding_all rfl) (by decide) (by rfl) (by decide) (by rfl) ?_)
      k_steps
      refine Stop.go ?_
      refine SrcS.intro (by k_asm) (by k_asm) (by rw [PySem.sizeLine_eq]; have := hx; unfold Str.length at this; (first | lia | omega)) ?_
      intro g9
      refine restU_fix (fun i ys => StrsAre ys ((x.cps.toList.take i).map fun c => ch c ++ z)) .nil ?_ ?_
      · intro i ys v I oI C oC D m₂ h tk E' hi hJ hP hC hx9 F N off ne
        refine Mine.hideG ?_; intro gP_h hG_h; obtain ⟨c, u, hc, rfl⟩ := hP; refine hG_h ?_; (try clear hG_h)
        k_steps
        refine Stop.go ?_
        exact LCg.CompEnd.intro (by k_asm) (by k_asm) _ (by intro p hp; exact hp) off trivial ⟨rfl, strs_step hJ (by simpa using hc)⟩
      · intro ys hys
        rw [List.take_of_length_le (by simp)] at hys
        have hx20 : x.cps.toList.length ≤ 20 := by (first | lia | omega)
        have hpl := put_len hx20 hz
        intro D8 h8 tk8 F8 N8 o8
        k_steps
        refine join_list (News.isList N8 (.head _)) hys (put_bound hx20 hz) ?_
        intro t7 k7
        k_steps
        refine Stop.go ?_
        intro leZ
        (try dsimp only)
        k_steps
        rename News _ _ _ _ => N3
        subst hye
        refine hret _ _ _ _ (by k_asm) (cb_drop (news := news) N3 ?_) ⟨rfl, by rw [rep_put]; simp⟩
        k_extra "subw"
    · have hy0 := len_ne (by assumption : (y == Str.ofString "") = false)
      have hal : (apart x.cps.toList y.cps.toList).length ≤ 21 := apart_le hxl hx
      refine Stop.go ?_
      rename Fr _ _ _ (fun _ => _) => F1
      k_dflt refine' For_invVF F1 (by rfl) (by rfl) ?_
      k_steps
      refine Stop.go ?_
      rename News _ _ _ _ => N2
      refine for_list (σ := MdC) (nn := k9) (fun c => [(Str.ofString "made", Value.str c.m c.tm), (Str.ofString "at", Value.int c.a c.ta)]) [] (MdJ _ x z y.length (apart x.cps.toList y.cps.toList)) ⟨Str.ofString "", _, 0, _⟩ (by rfl) (.tail _ (.head _)) (by k_asm) N2 (by kst_all) ⟨rfl, L_empty, rfl, Nat.le_of_eq (by decide +kernel : (Str.ofString "").length = 0)⟩ ?turn ?done
      case turn =>
        rintro i v ⟨m1, tm, a1, ta⟩ nx u h7 tk7 own hv hln ⟨rfl, hm1, ha1, hml⟩ hoff F7 N7
        dsimp only at F7 N7 hm1 ha1 hoff hml
        simp only [List.cons_append] at N7
        refine Mine.hideG ?_; intro gP_h hG_h; obtain ⟨n, tn, hn, rfl⟩ := Nats.at hC9 hv; refine hG_h ?_; (try clear hG_h)
        have hi9 := (List.getElem?_eq_some_iff.mp hn).1
        have hst := MdJ.step hm1 ha1 hn
        k_steps
        refine Stop.go ?_
        rename Fr _ _ _ _ => F0
        rename News _ _ _ _ => N0
        refine TurnP.next ⟨_, _, _, _⟩ _ F0 N0 ?_ ?_ hoff (by kst_all) (by kst_same) ⟨?_, rfl, hst.1, hst.2, ?_⟩
        · exact by k_extra "subw"
        · exact by k_extra "subw"
        · k_mem
        · dsimp only; (first | lia | omega)
      case done =>
        rintro ⟨m1, tm, a1, ta⟩ nx u h7 tk7 ⟨rfl, hm1, ha1, hml⟩ F7 N7
        rw [hl9, List.take_of_length_le (Nat.le_refl _)] at hm1 ha1
        dsimp only at F7 N7 hm1 ha1 hml
        have hme := made_end hy0 hm1 ha1
        have hone := one_len
        have hmk := rep_le x y (Str.ofString "\x01")
        rw [hone] at hmk
        have hmk1 : (Txt.replace x y (Str.ofString "\x01")).length ≤ 1000 := by (first | lia | omega)
        have hmk2 : (Txt.replace x y (Str.ofString "\x01")).length ≤ 20000 := by (first | lia | omega)
        have hmk3 : (Txt.replace (Txt.replace x y (Str.ofString "\x01")) (Str.ofString "\x01") y).length ≤ 20000 := rep_le20 (n := 41) (m := 20) (by (first | lia | omega)) hy (by decide)
        have h11 : (Str.ofString "\x01").length ≤ 1000 := by (first | lia | omega)
        k_steps
        · exact bad_bne (by assumption) hme.symm
        · exact bad_len hy0 hl9 (by assumption)
        refine Stop.go ?_
        have hmd24 : Md 24 := Md.on 24
        intro leC
        (try dsimp only at leC)
        (try dsimp only)
        k_dflt refine execs_app (pre := [_]) ?_
        k_steps
        refine Stop.go ?_
        intro leD
        (try dsimp only at leD)
        (try dsimp only)
        k_steps
        · rename News _ _ _ _ => N3
          refine hret _ _ _ _ (by k_asm) (cb_drop (news := news) N3 ?_) ⟨rfl, by rw [rep_back hy0 hx1]; simp⟩
          k_extra "subw"
        · exact bad_marked hy0 hy1 (by assumption)
end
section
local macro_rules | `(tactic| walk1) => `(tactic| first | k_extra "mineS18" | k_extra "hdr9")
theorem trright_spec : TrRightS Mine.hd.heap_1 := by
  k_with "mineS18 subscriptTail" => ((with_reducible show PySem.wpAny _ _ (PyProof.Rows.subscriptTail (PySem.Expr.Name _ _) (PySem.Expr.Name _ _) (PySem.Value.ref _) (PySem.Value.int _ _)) _ _ _); (fail_if_success (fail_if_success (have := (by with_reducible assumption : Mine.Md 18)))); with_reducible refine Mine.Stop.out ?_)
  k_with "mineS18 subscriptTail" => ((with_reducible show PySem.wpAny _ _ (PyProof.Rows.subscriptTail (PySem.Expr.Name _ _) (PySem.Expr.IfExp _ _ _ _) (PySem.Value.str _ _) (PySem.Value.int _ _)) _ _ _); (fail_if_success (fail_if_success (have := (by with_reducible assumption : Mine.Md 18)))); with_reducible refine Mine.Stop.out ?_)
  k_with "mineS18 subscriptTail" => ((with_reducible show PySem.wpAny _ _ (PyProof.Rows.subscriptTail (PySem.Expr.List _ _) (PySem.Expr.Call _ _ _ _) (PySem.Value.ref _) (PySem.Value.int _ _)) _ _ _); (fail_if_success (fail_if_success (have := (by with_reducible assumption : Mine.Md 18)))); with_reducible refine Mine.Stop.out ?_)
  k_with "mineS18 compareOp" => ((with_reducible show PySem.wpAny _ _ (PySem.compareOp PySem.CmpOp.NotEq (PySem.Value.ref _) (PySem.Value.ref _)) _ _ _); (fail_if_success (fail_if_success (have := (by with_reducible assumption : Mine.Md 18)))); with_reducible refine Mine.Stop.out ?_)
  k_with "mineS18 assign" => ((with_reducible show PySem.wpAny _ _ (PySem.assign (PySem.Expr.Tuple _ _ _) _ (PySem.Value.ref _)) _ _ _); (fail_if_success (fail_if_success (have := (by with_reducible assumption : Mine.Md 18)))); (fail_if_success (have := (by with_reducible assumption : Mine.Md 19))); with_reducible refine Mine.Stop.out ?_)
  k_with "mineS18" => (first | ((with_reducible show PySem.wpAny _ _ _ _ _ _); first | ((with_reducible show PySem.wpAny _ _ (PyProof.Rows.subscriptTail _ _ _ _) _ _ _); k_extra "mineS18 subscriptTail") | ((with_reducible show PySem.wpAny _ _ (PySem.compareOp _ _ _) _ _ _); k_extra "mineS18 compareOp") | ((with_reducible show PySem.wpAny _ _ (PySem.assign _ _ _) _ _ _); k_extra "mineS18 assign") | fail))
  intro w b o sm c al ta x tx hB hc hal hx
  unfold BoxT
  intro rest hoff
  have hmd : Md 18 := Md.on 18
  k_with "call ref" => ((with_reducible show PySem.wpAny _ _ (PySem.call (PySem.Value.ref 434) _ _) _ _ _); k_dflt (refine' Mine.take_use take2_spec ?c7hB ?c7hc ?c7hm ?c7hm2 ?c7k1 ?c7k2 ?c7k3 ?c7k4 ?c7kU ?c7k5 ?c7kK ?c7kd ?c7ku ?_; (case c7k1 => k_asm); (case c7k2 => k_asm); (case c7k3 => k_asm); (case c7k4 => k_asm); (case c7kU => k_updF); (case c7hB => with_reducible assumption); (case c7hc => first | with_reducible assumption | (with_reducible refine Mine.bx1 (by with_reducible assumption) ?_; decide) | (with_reducible refine Mine.bx2 (by with_reducible assumption) ?_; decide) | (with_reducible refine Mine.bx3 (by with_reducible assumption) ?_; decide) | (with_reducible refine Mine.bx4 (by with_reducible assumption) ?_; decide) | (with_reducible refine Mine.bx5 (by with_reducible assumption) ?_; decide) | (with_reducible refine Mine.bx6 (by with_reducible assumption) ?_; decide) | (with_reducible refine Mine.bx7 (by with_reducible assumption) ?_; decide) | (with_reducible refine Int.lt_trans (by with_reducible assumption) ?_; decide) | (first | lia | omega)); (case c7hm => first | decide | (first | lia | omega)); (case c7hm2 => first | decide | (first | lia | omega)); (case c7k5 => k_asm); (case c7kK => first | exact rfl | assumption); (case c7kd => k_room); (case c7ku => k_units)); intro o9 d9 t9 h9 tk9 le9 F9 n9 N9 hB9 hd9 hd9'; (try dsimp only at le9); (try dsimp only at N9); (try dsimp only); (try k_fold))
  k_with "call ref" => ((with_reducible show PySem.wpAny _ _ (PySem.call (PySem.Value.ref 458) _ _) _ _ _); k_dflt (refine' Mine.set_use set_spec ?c7hB ?c7hc ?c7hal ?c7k1 ?c7k2 ?c7k3 ?c7k4 ?c7kU ?c7k5 ?c7kK ?c7kd ?c7ku ?_; (case c7k1 => k_asm); (case c7k2 => k_asm); (case c7k3 => k_asm); (case c7k4 => k_asm); (case c7kU => k_updF); (case c7hB => with_reducible assumption); (case c7hc => first | with_reducible assumption | (with_reducible refine Mine.bx1 (by with_reducible assumption) ?_; decide) | (with_reducible refine Mine.bx2 (by with_reducible assumption) ?_; decide) | (with_reducible refine Mine.bx3 (by with_reducible assumption) ?_; decide) | (with_reducible refine Mine.bx4 (by with_reducible assumption) ?_; decide) | (with_reducible refine Mine.bx5 (by with_reducible assumption) ?_; decide) | (with_reducible refine Mine.bx6 (by with_reducible assumption) ?_; decide) | (with_reducible refine Mine.bx7 (by with_reducible assumption) ?_; decide) | (with_reducible refine Int.lt_trans (by with_reducible assumption) ?_; decide) | (first | lia | omega)); (case c7hal => with_reducible assumption); (case c7k5 => k_asm); (case c7kK => first | exact rfl | assumption); (case c7kd => k_room); (case c7ku => k_units)); intro r9 o9 ex9 h9 tk9 le9 F9 N9 hF9 P9; refine Mine.hideG ?_; intro gP_h hG_h; obtain ⟨hB9, T9, x9, tx9, bb9, M9, vs9, k9, ms9, rfl, hT9, hM9, hC9, hX9, hx9⟩ := P9; refine hG_h ?_; clear hG_h; (try simp only [List.cons_append] at N9); (try dsimp only at N9); (try dsimp only); (try k_fold))
  k_with "call ref" => ((with_reducible show PySem.wpAny _ _ (PySem.call (PySem.Value.ref 441) _ _) _ _ _); k_dflt (refine' Mine.thing_use thing_spec ?c7k1 ?c7k2 ?c7k3 ?c7k4 ?c7k5 ?c7kK ?c7kd ?c7ku ?_; (case c7k1 => k_asm); (case c7k2 => k_asm); (case c7k3 => k_asm); (case c7k4 => k_asm); (case c7k5 => k_asm); (case c7kK => first | exact rfl | assumption); (case c7kd => k_room); (case c7ku => k_units)); intro a9 dx9 f9 q1 q2 q3 q4 q5 q6 q7 q0 h9 tk9 le9 F9 n9 N9 l9 d9 m9; (try dsimp only at le9); have e9 : @LT.lt Nat _ dx9 a9 := d9; (try dsimp only); (try k_fold))
  k_with "call ref" => ((with_reducible show PySem.wpAny _ _ (PySem.call (PySem.Value.ref 406) _ _) _ _ _); k_dflt (refine' Mine.Fn.useG (translated_spec _ _ _ _ _ _ _ _ _ _ _ _ _ _ ?c7hT1 ?c7hX ?c7hT2 ?c7hS ?c7hz ?c7hol ?c7hoc ?c7hA ?c7hx) ?c7k1 ?c7k2 ?c7k3 ?c7k4 ?c7k5 ?c7kK ?c7kd ?c7ku ?_; (case c7k1 => k_asm); (case c7k2 => k_asm); (case c7k3 => k_asm); (case c7k4 => k_asm); (case c7k5 => k_asm); (case c7hA => k_mem); (case c7hT1 => exact Mine.thing_in (by k_mem) (by k_mem)); (case c7hT2 => exact Mine.thing_in (by k_mem) (by k_mem)); (case c7hX => with_reducible assumption); (case c7hS => with_reducible assumption); (case c7hz => first | with_reducible assumption | exact Nat.le_trans (by with_reducible assumption) (by decide) | (first | lia | omega)); (case c7hol => first | with_reducible assumption | exact Nat.le_trans (by with_reducible assumption) (by decide) | (first | lia | omega)); (case c7hoc => with_reducible assumption); (case c7hx => first | with_reducible assumption | exact Nat.le_trans (by with_reducible assumption) (by decide) | (first | lia | omega)); (case c7kK => first | exact rfl | assumption); (case c7kd => k_room); (case c7ku => k_units)); intro t9 h9 tk9 le9 F9 N9; (try dsimp only); (try k_fold))
  unfold Fn
  intro p loose mean mg mb dp un gd cn cs a ccd cl outer A₀ base h₀ L m s Q E B F X N T hk hd hu hret
  refine wpAny_call ?_
  k_dflt (refine' Mine.code_defCL [Str.ofString "box", Str.ofString "alphabet", Str.ofString "text"] [(Str.ofString "text", _), (Str.ofString "alphabet", _), (Str.ofString "box", _)] (fun L' => [(L' + 1 + 1, none), (L' + 1, none)]) ?k1 ?k2 ?k3 ?k4 ?k5 ?kA ?kF ?kK ?k6 ?k7 ?k8 ?k9 ?kB ?kD ?kE ?kG ?_ ?c2 ?c3 ?c4; (case kA => exact rfl); (case kF => exact rfl); (case kK => assumption); (case k1 => k_asm); (case k2 => k_asm); (case k3 => k_asm); (case k4 => k_asm); (case k5 => k_asm); (case k6 => k_is); (case k7 => k_is); (case k8 => first | exact Mine.rm0 (by with_reducible assumption) | ktr_room); (case k9 => exact rfl); (case kB => exact rfl); (case kD => decide +kernel); (case kE => exact rfl); (case kG => exact fun _ => rfl); (case c2 => exact rfl); (case c3 => exact rfl); (case c4 => exact rfl); k_whole; intro g' L' h' tk' FG' F' B' X' T' l1 o' d1' o2' d2' N' e_h A_h; (try k_lift B'); (try k_fold))
  refine Mine.opq ?_
  intro Qr hQr
  have hlocs_h : Mine.Names [Str.ofString "box", Str.ofString "alphabet", Str.ofString "text", Str.ofString "written", Str.ofString "is_turned", Str.ofString "aim", Str.ofString "goal", Str.ofString "due", Str.ofString "spots"] := trivial
  have hlen_h := Mine.len_of (by assumption) (by k_is)
  rename Fr _ _ _ _ => F0_h
  replace F0_h : Fr _ _ _ (Mine.lk [(Str.ofString "text", _), (Str.ofString "alphabet", _), (Str.ofString "box", _)]) := F0_h
  k_steps
  refine Stop.go ?_
  rename News _ _ _ _ => N1
  have hT8 := News.isTup N1 (List.mem_cons_of_mem _ (List.mem_cons_of_mem _ (List.mem_cons_of_mem _ (List.mem_append_right _ hT9))))
  have hmd9 : Md 19 := Md.on 19
  k_steps
  refine Stop.go ?_
  refine item_menu (P := AimV) (n := 7) (by k_asm) (.head _) (by rfl) hd9 hd9' (by decide) menuAim ?_
  rintro _ ⟨z, tz, g, rfl, hzg⟩
  k_steps
  refine Stop.go ?_
  rename PyProof.V.Flat _ _ => hvv
  refine Mine.hideG ?_; intro gP_h hG_h; obtain ⟨tg, rfl⟩ := goal_val hzg hvv; refine hG_h ?_; (try clear hG_h)
  clear hvv
  refine Mine.hideG ?_; intro gP_h hG_h; obtain ⟨hz1, hz2, hz3, hz4⟩ := hzg.spr; refine hG_h ?_; (try clear hG_h)
  have hgl : g.cps.toList.length = g.length := L_len g
  rename Fr _ _ _ (fun _ => _) => F1
  k_dflt refine' For_turns F1 ?_
  k_steps
  refine Stop.go ?_
  have hZS : ∀ p ∈ rest ++ ex9, p.1 ≠ L' + 1 + 1 := off_app (ne_of_allLt l1.2 (Nat.le_add_right _ 2)) (ne_fresh2 hF9 (by k_extra "memw"))
  have hM8 : (M9, listOf vs9.toArray k9) ∈ rest ++ ex9 := List.mem_append_right _ hM9
  have hms := Chs.length hC9
  have hml : ms9.length ≤ 100000 := hX9.2.2.1
  have hbL : @Ne Nat b (L' + 1 + 1) := Nat.ne_of_lt (Nat.lt_add_right 2 l1.1)
  rename News _ _ _ _ => N1
  dsimp +zetaDelta only at N1
  (try simp only [List.cons_append] at N1)
  rename AllLt _ _ => hl5
  have hZD : ∀ p ∈ rest ++ ex9, p.1 ≠ _ := as0 hl5 (by k_extra "subw")
  generalize hZe : rest ++ ex9 = Z at N1 hZS hM8 hZD
  k_dflt refine' for_strT (σ := Obj × List Value × Nat) (fun _ => []) (Str.ofString "sign") [Str.ofString "spots"] (TrJ (L' + 1 + 1) _ _ (b, o9) Z bb9 ms9 g.cps.toList x.cps.toList) ⟨_, [], 0⟩ (by rfl) (by k_asm) (tr_news N1) (List.forall_mem_nil _) ⟨rfl, ⟨_, by assumption⟩, by rw [List.take_zero, trL_nil]; exact .nil⟩ ?turn ?done
  case turn =>
    rintro i v ⟨oc, ys, kk⟩ nx u h7 tk7 own hi ⟨cc, uu, hcc, rfl⟩ ⟨rfl, ⟨v0, hoc⟩, hJ⟩ hoff F7 N7
    dsimp only at F7 N7 hoff hoc hJ
    simp only [List.cons_append] at N7
    have hc' : x.cps.toList[i]? = some cc := by simpa using hcc
    have hyl := tr_len hJ hx
    have hoD : ∀ p ∈ own, p.1 ≠ _ := fun p hp => hoff p hp _ (List.mem_map.mpr ⟨_, .head _, rfl⟩)
    have hoS : ∀ p ∈ own, p.1 ≠ L' + 1 + 1 := fun p hp => hoff p hp _ (List.mem_map.mpr ⟨_, .tail _ (.head _), rfl⟩)
    k_steps
    refine Stop.go ?_
    k_dflt (refine LCt.Assign_ListComp_T (F₀ := by k_asm) (by rfl) (by with_unfolding_all rfl) (by with_unfolding_all rfl) (by decide) (by rfl) (by decide) (by rfl) (by rfl) (by rfl) ?_)
    k_steps
    refine Stop.go ?_
    refine LCt.CompSrcT.range (n := ms9.length) (by rfl) (by k_asm) (by k_asm) (by assumption) (range_ok (by (first | lia | omega)) (by (first | lia | omega)) (by (first | lia | omega)) (by (first | lia | omega))) (by rw [rangeSize_nat]; (first | lia | omega)) (by rw [PySem.sizeLine_eq]; (first | lia | omega)) ?_
    intro g9
    refine restT_fix (fun i ys => Nats ys (placesL ms9 cc i)) .nil ?turnA ?finA
    case turnA =>
      intro i ys v I oI C oC D m₂ h tk E' hi hJ hP hC hx9 F N off ne
      refine Mine.hideG ?_; intro gP_h hG_h; obtain ⟨t9, rfl⟩ := hP; refine hG_h ?_; (try clear hG_h)
      simp only [Int.zero_add] at hx9
      k_steps
      refine Stop.go ?_
      refine Mine.hideG ?_; intro gP_h hG_h; obtain ⟨t8, e8⟩ := Chs.get hC9 (List.getElem?_eq_getElem hi); refine hG_h ?_; (try clear hG_h)
      refine item_mem (by k_asm) (by k_mem) (by (first | lia | omega)) (by (first | lia | omega)) (v := _) (by rw [Int.toNat_natCast, List.getElem?_toArray]; exact e8) ?_
      k_steps
      · refine LCg.CompEnd.intro (by k_asm) (by k_asm) _ (by intro p hp; exact hp) off trivial ⟨rfl, ?_⟩
        rw [placesL_hit (pl_hit hi (by assumption))]; exact hJ.snoc
      · refine LCg.CompEnd.intro (by k_asm) (by k_asm) _ (by intro p hp; exact hp) off trivial ⟨rfl, ?_⟩
        rw [placesL_miss (pl_miss hi (by assumption))]; exact hJ
    case finA =>
      intro ys1 hys1
      intro D8 h8 tk8 F8 N8 o8
      have o8' := o8
      (try simp only [LCg.Off1] at o8')
      k_steps
      refine Stop.go ?_
      refine ne_nil (by k_asm) (by k_mem) (by k_mem) (by first | k_units | ktr_units | units_room) ?_
      have hlast := placesL_last ms9 cc ms9.length
      have hcon := lastIdx_contains ms9 cc
      cases hli : lastIdx ms9 cc ms9.length with
      | none =>
        rw [hli] at hlast hcon
        dsimp only at hlast
        rw [Option.isSome_none] at hcon
        rw [hlast] at hys1
        obtain rfl := Nats.nilL hys1
        rw [List.isEmpty_nil]
        cases bb9 with
        | true =>
          k_steps
          · have hg0 := goal_ne (by assumption)
            refine Stop.go ?_
            refine item_sign (j := g.cps.toList.length - 1) ?ji (goal_last hg0) (by (first | lia | omega)) ?_
            case ji => have := List.length_pos_iff.mpr hg0; (first | lia | omega)
            k_steps
            refine Stop.go ?_
            rename Fr _ _ _ _ => F0
            rename News _ _ _ _ => N0
            refine tr_turn F0 N0 (by assumption) hoff (by kst_same) (tr_put hJ hc' (by rw [← hcon]; decide) hg0 (if_pos rfl))
          · refine Stop.go ?_
            rename Fr _ _ _ _ => F0
            rename News _ _ _ _ => N0
            refine tr_turn F0 N0 (by assumption) hoff (by kst_same) (tr_skip hJ hc' (by rw [← hcon]; decide) (goal_nil (by assumption)))
        | false =>
          k_steps
          refine Stop.go ?_
          rename Fr _ _ _ _ => F0
          rename News _ _ _ _ => N0
          refine tr_turn F0 N0 (by assumption) hoff (by kst_same) (tr_same hJ hc' hcon.symm)
      | some j =>
        rw [hli] at hlast hcon
        dsimp only at hlast
        rw [Option.isSome_some] at hcon
        refine Mine.hideG ?_; intro gP_h hG_h; obtain ⟨r8, hr8⟩ := hlast; refine hG_h ?_; (try clear hG_h)
        rw [hr8] at hys1
        refine Mine.hideG ?_; intro gP_h hG_h; obtain ⟨vs8, t8, rfl⟩ := hys1.last; refine hG_h ?_; (try clear hG_h)
        rw [show (vs8 ++ [Value.int (j : Int) t8]).isEmpty = false by simp]
        cases bb9 with
        | true =>
          k_steps
          refine Stop.go ?_
          rename Fr _ _ _ _ => F0
          rename News _ _ _ _ => N0
          refine tr_turn F0 N0 (by assumption) hoff (by kst_same) (tr_same hJ hc' hcon.symm)
        | false =>
          k_steps
          · have hg0 := goal_ne (by assumption)
            have hgp := List.length_pos_iff.mpr hg0
            refine Stop.go ?_
            refine item_sign (j := min j (g.cps.toList.length - 1)) ?ji2 (trVal_get hg0 j) (by (first | lia | omega)) ?_
            case ji2 => split <;> (first | lia | omega)
            k_steps
            refine Stop.go ?_
            rename Fr _ _ _ _ => F0
            rename News _ _ _ _ => N0
            refine tr_turn F0 N0 (by assumption) hoff (by kst_same) (tr_put hJ hc' (by rw [← hcon]; decide) hg0 (by rw [if_neg (by decide), trSign, hli]))
          · refine Stop.go ?_
            rename Fr _ _ _ _ => F0
            rename News _ _ _ _ => N0
            refine tr_turn F0 N0 (by assumption) hoff (by kst_same) (tr_skip hJ hc' (by rw [← hcon]; decide) (goal_nil (by assumption)))
  case done =>
    rintro ⟨oc, ys, kk⟩ nx u h7 tk7 ⟨rfl, ⟨v0, hoc⟩, hJ⟩ F7 N7
    dsimp only at F7 N7 hoc hJ
    rw [List.take_of_length_le (by simp)] at hJ
    have hjl := trL_len bb9 ms9 g.cps.toList x.cps.toList
    have hxl : x.cps.toList.length = x.length := L_len x
    have hjm : (trL bb9 ms9 g.cps.toList x.cps.toList).length ≤ 100000 := by (first | lia | omega)
    have hx1000 : x.length ≤ 1000 := by (first | lia | omega)
    k_steps
    subst hZe
    rename News _ _ _ _ => N9
    refine hret _ _ _ _ (by k_asm) (cb_drop (news := (b, o9) :: rest) N9 ?_) ⟨_, rfl, hB9.mono (by (first | lia | omega)), by simp⟩
    k_extra "subw"
end
section
local macro_rules | `(tactic| walk1) => `(tactic| first | k_extra "mineS19" | k_extra "hdr9")
theorem backright_spec : BackRightS Mine.hd.heap_1 := by
  k_with "mineS19 call" => ((with_reducible show PySem.wpAny _ _ (PySem.call (PySem.Value.builtin "list.index") _ _) _ _ _); (fail_if_success (fail_if_success (have := (by with_reducible assumption : Mine.Md 21)))); with_reducible refine Mine.Stop.out ?_)
  k_with "mineS19 subscriptTail" => ((with_reducible show PySem.wpAny _ _ (PyProof.Rows.subscriptTail (PySem.Expr.Name _ _) (PySem.Expr.Name _ _) (PySem.Value.str _ _) (PySem.Value.int _ _)) _ _ _); (fail_if_success (fail_if_success (have := (by with_reducible assumption : Mine.Md 21)))); (k_dflt refine' Mine.item_sign ?c8ji ?c8jc ?c8jx ?_; (case c8jc => assumption); (case c8ji => rfl); (case c8jx => (first | lia | omega))); (try dsimp only); (try k_fold))
  k_with "mineS19" => (first | ((with_reducible show PySem.wpAny _ _ _ _ _ _); first | ((with_reducible show PySem.wpAny _ _ (PySem.call _ _ _) _ _ _); k_extra "mineS19 call") | ((with_reducible show PySem.wpAny _ _ (PyProof.Rows.subscriptTail _ _ _ _) _ _ _); k_extra "mineS19 subscriptTail") | fail))
  intro w x tx al ta news hal hx hxa
  obtain ⟨al0, al10, al200⟩ := id hal
  have hmd : Md 21 := Md.on 21
  k_with "call ref" => ((with_reducible show PySem.wpAny _ _ (PySem.call (PySem.Value.ref 441) _ _) _ _ _); k_dflt (refine' Mine.thing_use thing_spec ?c7k1 ?c7k2 ?c7k3 ?c7k4 ?c7k5 ?c7kK ?c7kd ?c7ku ?_; (case c7k1 => k_asm); (case c7k2 => k_asm); (case c7k3 => k_asm); (case c7k4 => k_asm); (case c7k5 => k_asm); (case c7kK => first | exact rfl | assumption); (case c7kd => k_room); (case c7ku => k_units)); intro a9 dx9 f9 q1 q2 q3 q4 q5 q6 q7 q0 h9 tk9 le9 F9 n9 N9 l9 d9 m9; (try dsimp only at le9); have e9 : @LT.lt Nat _ dx9 a9 := d9; (try dsimp only); (try k_fold))
  k_with "call ref" => ((with_reducible show PySem.wpAny _ _ (PySem.call (PySem.Value.ref 406) _ _) _ _ _); k_dflt (refine' Mine.Fn.useG (translated_spec _ _ _ _ _ _ _ _ _ _ _ _ _ _ ?c7hT1 ?c7hX ?c7hT2 ?c7hS ?c7hz ?c7hol ?c7hoc ?c7hA ?c7hx) ?c7k1 ?c7k2 ?c7k3 ?c7k4 ?c7k5 ?c7kK ?c7kd ?c7ku ?_; (case c7k1 => k_asm); (case c7k2 => k_asm); (case c7k3 => k_asm); (case c7k4 => k_asm); (case c7k5 => k_asm); (case c7hA => k_mem); (case c7hT1 => exact Mine.thing_in (by k_mem) (by k_mem)); (case c7hT2 => exact Mine.thing_in (by k_mem) (by k_mem)); (case c7hX => with_reducible assumption); (case c7hS => with_reducible assumption); (case c7hz => first | with_reducible assumption | exact Nat.le_trans (by with_reducible assumption) (by decide) | (first | lia | omega)); (case c7hol => first | with_reducible assumption | exact Nat.le_trans (by with_reducible assumption) (by decide) | (first | lia | omega)); (case c7hoc => with_reducible assumption); (case c7hx => first | with_reducible assumption | exact Nat.le_trans (by with_reducible assumption) (by decide) | (first | lia | omega)); (case c7kK => first | exact rfl | assumption); (case c7kd => k_room); (case c7ku => k_units)); intro t9 h9 tk9 le9 F9 N9; (try dsimp only); (try k_fold))
  unfold Fn
  intro p loose mean mg mb dp un gd cn cs a ccd cl outer A₀ base h₀ L m s Q E B F X N T hk hd hu hret
  refine wpAny_call ?_
  k_dflt (refine' Mine.code_defCL [Str.ofString "text", Str.ofString "alphabet"] [(Str.ofString "text", _)] (fun L' => [(L' + 1 + 1, none), (L' + 1, some (.str al ta))]) ?k1 ?k2 ?k3 ?k4 ?k5 ?kA ?kF ?kK ?k6 ?k7 ?k8 ?k9 ?kB ?kD ?kE ?kG ?_ ?c2 ?c3 ?c4; (case kA => exact rfl); (case kF => exact rfl); (case kK => assumption); (case k1 => k_asm); (case k2 => k_asm); (case k3 => k_asm); (case k4 => k_asm); (case k5 => k_asm); (case k6 => k_is); (case k7 => k_is); (case k8 => first | exact Mine.rm0 (by with_reducible assumption) | ktr_room); (case k9 => exact rfl); (case kB => exact rfl); (case kD => decide +kernel); (case kE => exact rfl); (case kG => exact fun _ => rfl); (case c2 => exact rfl); (case c3 => exact rfl); (case c4 => exact rfl); k_whole; intro g' L' h' tk' FG' F' B' X' T' l1 o' d1' o2' d2' N' e_h A_h; (try k_lift B'); (try k_fold))
  refine Mine.opq ?_
  intro Qr hQr
  have hlocs_h : Mine.Names [Str.ofString "text", Str.ofString "side", Str.ofString "fresh", Str.ofString "there"] := trivial
  have hlen_h := Mine.len_of (by assumption) (by k_is)
  rename Fr _ _ _ _ => F0_h
  replace F0_h : Fr _ _ _ (Mine.lk [(Str.ofString "text", _)]) := F0_h
  have hll : al.cps.toList.length = al.length := L_len al
  have hxl : x.cps.toList.length = x.length := L_len x
  k_steps
  refine Stop.go ?_
  k_dflt (refine wpAny_Assign_Name ?_ (hs := by with_unfolding_all rfl))
  k_dflt (refine LCt.ListComp_T (F₀ := by k_asm) (by with_unfolding_all rfl) (by decide) (by rfl) (by decide) (by rfl) ?_)
  k_steps
  refine Stop.go ?_
  refine LCt.CompSrcT.range (n := al.length) (by rfl) (by k_asm) (by k_asm) (by assumption) (range_ok (by (first | lia | omega)) (by (first | lia | omega)) (by (first | lia | omega)) (by (first | lia | omega))) (by rw [rangeSize_nat]; (first | lia | omega)) (by rw [PySem.sizeLine_eq]; (first | lia | omega)) ?_
  intro g9
  refine restT_fix (fun i ys => Chs ys (uniqN al.cps.toList i)) .nil ?turnA ?finA
  case turnA =>
    intro i ys v I oI C oC D m₂ h tk E' hi hJ hP hC hx9 F N off ne
    refine Mine.hideG ?_; intro gP_h hG_h; obtain ⟨t9, rfl⟩ := hP; refine hG_h ?_; (try clear hG_h)
    simp only [Int.zero_add] at hx9
    have hci : al.cps.toList[i]? = some _ := List.getElem?_eq_getElem (by (first | lia | omega))
    k_steps
    · refine LCg.CompEnd.intro (by k_asm) (by k_asm) _ (by intro p hp; exact hp) off trivial ⟨rfl, ?_⟩
      rw [uniq_hit hci (not_in_take (by assumption))]; exact hJ.snoc
    · refine LCg.CompEnd.intro (by k_asm) (by k_asm) _ (by intro p hp; exact hp) off trivial ⟨rfl, ?_⟩
      rw [uniq_miss hci (in_take (by assumption))]; exact hJ
  case finA =>
    intro ysU hysU
    intro D8 h8 tk8 F8 N8 o8
    have hUn := uniq_nodup al.cps.toList al.length
    have hUl := uniq_len al.cps.toList al.length
    have hUm := uniq_mem al.cps.toList al.length
    rw [List.take_of_length_le (by (first | lia | omega))] at hUm
    generalize hUe : uniqN al.cps.toList al.length = U at hysU hUn hUl hUm
    have hU0 : U ≠ [] := fun e => by
      have : al.cps.toList ≠ [] := fun e' => by rw [e'] at hll; simp only [List.length_nil] at hll; (first | lia | omega)
      refine Mine.hideG ?_; intro gP_h hG_h; obtain ⟨c, hc⟩ := List.exists_mem_of_ne_nil _ this; refine hG_h ?_; (try clear hG_h)
      have := (hUm c).mpr hc
      rw [e] at this; cases this
    have hU200 : ∀ c ∈ U, c < 200 := fun c hc => al200 c ((hUm c).mp hc)
    have hyl := Chs.length hysU
    have hU10 : U.length ≤ 10 := by (first | lia | omega)
    refine Mine.hideG ?_; intro gP_h hG_h; obtain ⟨hsX, hsS, hsL⟩ := side_telx hU10 hU200; refine hG_h ?_; (try clear hG_h)
    refine Mine.hideG ?_; intro gP_h hG_h; obtain ⟨hfX, hfS⟩ := fresh_telx (n := U.length) hU10; refine hG_h ?_; (try clear hG_h)
    have o8' := o8
    simp only [LCg.Off1] at o8'
    k_steps
    refine Stop.go ?_
    k_dflt (refine LCg.ListComp_U (F₀ := by k_asm) (by with_unfolding_all rfl) (by decide) (by rfl) (by decide) (by rfl) ?_)
    k_steps
    refine Stop.go ?_
    refine LCg.CompSrc.ledger (its := ysU.toArray) (by rfl) (by k_asm) (by k_asm) (by k_mem) (by rw [List.size_toArray, PySem.sizeLine_eq]; (first | lia | omega)) ?_
    intro gB
    refine restU_fix (fun i ys => StrsAre ys ((U.take i).map fun c => Str.ofString "\\" ++ ch c)) .nil ?turnB ?finB
    case turnB =>
      intro i ys v I oI C oC D m₂ h tk E' hi hJ hP hC hx9 F N off ne
      refine Mine.hideG ?_; intro gP_h hG_h; obtain ⟨c, t, hc, rfl⟩ := Chs.at hysU (i := i) (v := v) (by simpa using hP); refine hG_h ?_; (try clear hG_h)
      k_steps
      refine Stop.go ?_
      exact LCg.CompEnd.intro (by k_asm) (by k_asm) _ (by intro p hp; exact hp) off (.inr ⟨_, .head _, rfl, _, rfl⟩) ⟨rfl, side_step hJ hc⟩
    case finB =>
      intro ysB hysB
      rw [List.take_of_length_le (by rw [List.size_toArray]; (first | lia | omega))] at hysB
      intro D9 h9 tk9 F9 N9 o9
      k_steps
      refine join_side (News.isList N9 (.head _)) hysB hU10 ?_
      intro t7 k7
      k_steps
      refine Stop.go ?_
      k_dflt (refine LCg.ListComp_U (F₀ := by k_asm) (by with_unfolding_all rfl) (by decide) (by rfl) (by decide) (by rfl) ?_)
      k_steps
      refine Stop.go ?_
      refine LCg.CompSrc.range (n := U.length) (by rfl) (by k_asm) (by k_asm) (by assumption) (range_ok (by (first | lia | omega)) (by (first | lia | omega)) (by (first | lia | omega)) (by (first | lia | omega))) (by rw [rangeSize_nat]; (first | lia | omega)) (by rw [PySem.sizeLine_eq]; (first | lia | omega)) ?_
      intro gC
      refine restU_fix (fun i ys => Chs ys ((freshL U.length).take i)) .nil ?turnC ?finC
      case turnC =>
        intro i ys v I oI C oC D m₂ h tk E' hi hJ hP hC hx9 F N off ne
        refine Mine.hideG ?_; intro gP_h hG_h; obtain ⟨t9, rfl⟩ := hP; refine hG_h ?_; (try clear hG_h)
        simp only [Int.zero_add] at hx9
        k_steps
        refine Stop.go ?_
        refine LCg.CompEnd.intro (by k_asm) (by k_asm) _ (by intro p hp; exact hp) off trivial ⟨rfl, ?_⟩
        exact fresh_step hJ hi
      case finC =>
        intro ysC hysC
        rw [List.take_of_length_le (by rw [fresh_len]; (first | lia | omega))] at hysC
        have hfl : (freshL U.length).length ≤ 100000 := by rw [fresh_len]; (first | lia | omega)
        intro D10 h10 tk10 F10 N10 o10
        have hfL : (S (freshL U.length)).length ≤ 1000 := by rw [S_len, fresh_len]; (first | lia | omega)
        have hfC : ∀ c ∈ freshL U.length, c < 50000 := fun c hc => by have := fresh_ok _ c hc; (first | lia | omega)
        have hUC : ∀ c ∈ U, c < 50000 := fun c hc => by have := hU200 c hc; (first | lia | omega)
        have hxU : ∀ c ∈ x.cps.toList, c ∈ U := fun c hc => (hUm c).mpr (hxa c hc)
        have hth := back_there hUn hU0 hxU
        have hba := back_again hUn hU0 hxU
        have hx1000 : x.length ≤ 1000 := by (first | lia | omega)
        have hxT : (S (trL false U (freshL U.length) x.cps.toList)).length ≤ 1000 := by rw [S_len, hth, List.length_map]; (first | lia | omega)
        k_steps
        refine Stop.go ?_
        k_dflt (refine Mine.ListComp_strU (_F₀ := by k_asm) (by rfl) (by with_unfolding_all rfl) (by decide) (by rfl) (by decide) (by rfl) ?_)
        k_steps
        refine Stop.go ?_
        refine SrcS.intro (by k_asm) (by k_asm) (by rw [PySem.sizeLine_eq]; have := hx; unfold Str.length at this; (first | lia | omega)) ?_
        intro gD
        refine restU_fix (fun i ys => Chs ys ((x.cps.toList.take i).map fun c => 200 + U.idxOf c)) .nil ?turnD ?finD
        case turnD =>
          intro i ys v I oI C oC D m₂ h tk E' hi hJ hP hC hx9 F N off ne
          refine Mine.hideG ?_; intro gP_h hG_h; obtain ⟨c, u, hc, rfl⟩ := hP; refine hG_h ?_; (try clear hG_h)
          have hc' : x.cps.toList[i]? = some c := by simpa using hc
          have hcU := hxU c (List.mem_of_getElem? hc')
          have hix := List.idxOf_lt_length_iff.mpr hcU
          k_steps
          refine Stop.go ?_
          refine index_chs (News.isList (by k_asm) (by k_mem)) hysU hcU hUn (by (first | lia | omega)) ?_
          k_steps
          refine Stop.go ?_
          refine LCg.CompEnd.intro (by k_asm) (by k_asm) _ (by intro p hp; exact hp) off trivial ⟨rfl, ?_⟩
          exact hJ.mapStep hc'
        case finD =>
          intro ysD hysD
          rw [List.take_of_length_le (by simp)] at hysD
          have hdl : (x.cps.toList.map fun c => 200 + U.idxOf c).length ≤ 100000 := by rw [List.length_map]; (first | lia | omega)
          intro D11 h11 tk11 F11 N11 o11
          k_steps
          · rename News _ _ _ _ => N12
            refine hret _ _ _ _ (by k_asm) (cb_drop (news := news) N12 ?_) ⟨rfl, back_end hth hba⟩
            k_extra "subw"
          · exact back_bad hth (by assumption)
end
section
local macro_rules | `(tactic| walk1) => `(tactic| first | k_extra "mineS21" | k_extra "hdr9")
theorem placesright_spec : PlacesRightS Mine.hd.heap_1 := by
  k_with_none
  k_with "memw" => first | with_reducible exact List.mem_cons_self | (with_reducible refine List.mem_cons_of_mem _ ?_; k_extra "memw") | with_reducible assumption | (with_reducible refine List.mem_append_left _ ?_; k_extra "memw") | (with_reducible refine List.mem_append_right _ ?_; k_extra "memw")
  k_with "sufw" => first | with_reducible exact Mine.sb_refl | with_reducible assumption | (with_reducible refine Mine.sb_tail ?_; k_extra "sufw") | (with_reducible refine Mine.sb_left ?_; k_extra "sufw") | (with_reducible refine Mine.sb_right ?_; k_extra "sufw")
  k_with "subw" => first | k_extra "sufw" | with_reducible exact Mine.sb_nil | (with_reducible refine Mine.sb_cons ?_ ?_; (k_extra "memw"); (k_extra "subw")) | (with_reducible refine Mine.sb_app ?_ ?_; (k_extra "subw"); (k_extra "subw"))
  k_with "inn" => first | with_reducible exact Mine.InN.here | (with_reducible refine Mine.InN.there ?_; k_extra "inn")
  k_with "alln" => first | with_reducible exact Mine.AllN.nil | (with_reducible refine Mine.AllN.co ?_; k_extra "alln") | (with_reducible refine Mine.AllN.nm ?_ ?_; (k_extra "inn"); (k_extra "alln"))
  k_with "evk" => first | ((with_reducible show Mine.Evs _ _ _ _ _ _); first | ((with_reducible apply Mine.Evs.at4 (by with_reducible assumption)); (k_extra "alln"); exact And.intro rfl rfl) | (with_reducible apply Mine.Evs.cons <;> k_extra "evk")) | ((with_reducible show Mine.Ev _ _ (PySem.Expr.Name _ _) _ _ _); (with_reducible apply Mine.Ev.at4 (by with_reducible assumption)); (k_extra "alln"); exact And.intro rfl rfl) | ((with_reducible show Mine.Ev _ _ (PySem.Expr.Constant _ _ _) _ _ _); exact Mine.Ev.atK (And.intro rfl rfl)) | (with_reducible apply Mine.Ev.add <;> k_extra "evk") | (with_reducible apply Mine.Ev.sub <;> k_extra "evk") | (with_reducible apply Mine.Ev.mul <;> first | k_extra "evk" | (try dsimp only; mul_fits)) | (with_reducible apply Mine.Ev.len; exact rfl; k_extra "evk"; first | with_reducible assumption | exact Nat.le_trans (by with_reducible assumption) (by decide) | omega) | exact Mine.EvO.no | (with_reducible apply Mine.EvO.so; k_extra "evk")
  k_with "k_size9" => (simp only [Array.size_push, List.size_toArray, List.length_cons, List.length_nil, List.length_append, List.nil_append, Array.size_empty, List.push_toArray]; first | decide | (first | lia | omega))
  k_with "top_raise09" => ((repeat (first | exact Mine.NeC.here | exact Mine.NeC.last | refine Mine.NeC.there ?_)); done)
  k_with "k_ne9" => ((try dsimp only); first | with_reducible assumption | exact Nat.succ_ne_self _ | exact (Nat.succ_ne_self _).symm | exact Nat.ne_of_lt (by with_reducible assumption) | exact Nat.ne_of_gt (by with_reducible assumption) | exact Mine.al0 (by with_reducible assumption) (by k_extra "memw") | exact Mine.au0 (by with_reducible assumption) (by k_extra "memw") | exact Mine.al1 (by with_reducible assumption) (by k_extra "memw") | exact Mine.al2 (by with_reducible assumption) (by k_extra "memw") | exact Mine.al3 (by with_reducible assumption) (by k_extra "memw") | exact Mine.al4 (by with_reducible assumption) (by k_extra "memw") | exact Mine.al5 (by with_reducible assumption) (by k_extra "memw") | exact Mine.au1 (by with_reducible assumption) (by k_extra "memw") | exact Mine.au2 (by with_reducible assumption) (by k_extra "memw") | exact Mine.au3 (by with_reducible assumption) (by k_extra "memw") | exact Mine.au4 (by with_reducible assumption) (by k_extra "memw") | exact Mine.au5 (by with_reducible assumption) (by k_extra "memw") | exact Mine.of0 (by with_reducible assumption) (by k_extra "memw") | exact Mine.of1 (by with_reducible assumption) (by k_extra "memw") | exact Mine.o1a (by with_reducible assumption) (by k_extra "memw") | exact Mine.o1b (by with_reducible assumption) (by k_extra "memw") | exact Mine.o3I (by with_reducible assumption) (by k_extra "memw") | exact Mine.o3C (by with_reducible assumption) (by k_extra "memw") | exact Mine.o3D (by with_reducible assumption) (by k_extra "memw") | exact Mine.o3i (by with_reducible assumption) (by k_extra "memw") | exact Mine.o3c (by with_reducible assumption) (by k_extra "memw") | exact Mine.o3d (by with_reducible assumption) (by k_extra "memw") | exact Mine.n3a (by with_reducible assumption) | exact Mine.n3b (by with_reducible assumption) | exact Mine.n3c (by with_reducible assumption) | exact Mine.n3d (by with_reducible assumption) | exact Mine.n3e (by with_reducible assumption) | exact Mine.n3f (by with_reducible assumption) | ((first | lia | omega)))
  k_with "k_room9" => first | exact Mine.rm0 (by with_reducible assumption) | exact Mine.rm1 (by with_reducible assumption) (by decide) | exact Mine.rm2 (by with_reducible assumption) (by decide) | decide | ktr_room
  k_with "k_units9" => first | exact Mine.rm0 (by with_reducible assumption) | exact Mine.rm1 (by with_reducible assumption) (by decide) | exact Mine.rm2 (by with_reducible assumption) (by decide) | decide | ktr_units
  k_with "k_all9" => first | with_reducible assumption | exact Mine.as0 (by with_reducible assumption) (by k_extra "subw") | exact Mine.as1 (by with_reducible assumption) (by k_extra "subw") | exact Mine.as2 (by with_reducible assumption) (by k_extra "subw") | exact Mine.as3 (by with_reducible assumption) (by k_extra "subw") | exact Mine.as4 (by with_reducible assumption) (by k_extra "subw") | exact Mine.as5 (by with_reducible assumption) (by k_extra "subw") | (with_reducible refine Mine.off_app ?_ ?_ <;> k_all) | exact Mine.ne_fresh2 (by assumption) (by k_extra "memw") | assumption | exact Mine.ne_of_allLt (by assumption) (by first | exact Nat.le_refl _ | exact Nat.le_succ _ | (first | lia | omega)) | exact Mine.ne_of_lt (by assumption) (by first | exact Nat.le_refl _ | exact Nat.le_succ _ | exact Nat.le_add_right _ 2 | exact Nat.le_add_right _ 3 | (first | lia | omega))
  k_with "k_updF9" => ((with_reducible refine' Mine.updF_app ?c8a ?c8b); (case c8b => k_all); (case c8a => k_updF))
  k_with "k_upd9" => ((with_reducible refine' Mine.upd_app ?c8a ?c8b); (case c8b => k_all); (case c8a => k_upd))
  k_with "k_mem9" => first | k_extra "memw" | exact List.mem_cons_self | ktr_member
  k_with "ksw_same9" => (intro z h2 h3; (repeat' (with_reducible refine Mine.if_skip ?_ ?_)); (all_goals (first | exact Mine.kst_keep' h2 h3 rfl | (have h4 := h2 _ (.head _); exact h4) | (have h4 := h2 _ (.tail _ (.head _)); exact h4) | (have h4 := h2 _ (.tail _ (.tail _ (.head _))); exact h4) | exact Mine.ne_stored h3 (by simp))))
  k_with "kst_same9" => (intro z h1 h2 h3; (repeat' (with_reducible refine Mine.if_skip ?_ ?_)); (all_goals (first | exact h1 | exact Mine.kst_keep' h2 h3 rfl | (have h4 := h2 _ (.head _); exact h4) | (have h4 := h2 _ (.tail _ (.head _)); exact h4) | (have h4 := h2 _ (.tail _ (.tail _ (.head _))); exact h4) | exact Mine.ne_stored h3 (by simp))))
  k_with "hdr9 eval" => with_reducible refine Mine.stop_comp ?_
  k_with "hdr9 eval" => ((with_reducible show PySem.wpAny _ _ (PySem.eval (PySem.Expr.BinOp _ _ _ _) _) _ _ _); (first | (k_dflt refine' Mine.ev_val ?c8o ?c8F ?c8X ?c8T ?c8l ?c8k ?c8v ?_; (case c8o => rfl); (case c8F => k_asm); (case c8X => k_asm); (case c8T => k_asm); (case c8l => first | with_reducible assumption | k_is); (case c8k => first | exact rfl | assumption); (case c8v => k_extra "evk"); k_whole) | (k_dflt refine' Mine.binop_ev ?c8o ?c8F ?c8X ?c8T ?c8l ?c8k ?c8v ?c8u ?_; (case c8o => rfl); (case c8F => k_asm); (case c8X => k_asm); (case c8T => k_asm); (case c8l => first | with_reducible assumption | k_is); (case c8k => first | exact rfl | assumption); (case c8v => k_extra "evk"); (case c8u => k_extra "evk"); k_whole)))
  k_with "hdr9 eval" => ((with_reducible show PySem.wpAny _ _ (PySem.eval (PySem.Expr.Call (PySem.Expr.Name _ _) (_ :: _) [] _) _) _ _ _); (first | (k_dflt refine' Mine.call_ev ?c8o ?c8F ?c8X ?c8T ?c8e ?c8l ?c8g ?c8k ?c8f ?c8d ?c8v ?c8p ?_; (case c8o => rfl); (case c8F => k_asm); (case c8X => k_asm); (case c8T => k_asm); (case c8l => first | with_reducible assumption | k_is); (case c8k => first | exact rfl | assumption); (case c8v => k_extra "evk"); (case c8f => exact rfl); (case c8d => decide); (case c8e => k_is); (case c8g => k_is); (case c8p => exact rfl); k_whole) | (k_dflt refine' Mine.callb_ev ?c8o ?c8F ?c8X ?c8T ?c8e ?c8b ?c8n ?c8l ?c8k ?c8f ?c8d ?c8v ?c8p ?_; (case c8o => rfl); (case c8F => k_asm); (case c8X => k_asm); (case c8T => k_asm); (case c8l => first | with_reducible assumption | k_is); (case c8k => first | exact rfl | assumption); (case c8v => k_extra "evk"); (case c8f => exact rfl); (case c8d => decide); (case c8e => k_is); (case c8b => boot_fast); (case c8n => decide); (case c8p => exact rfl); k_whole)))
  k_with "hdr9 eval" => ((with_reducible show PySem.wpAny _ _ (PySem.eval (PySem.Expr.Compare _ [_] [_] _) _) _ _ _); (k_dflt refine' Mine.cmp_ev ?c8o ?c8F ?c8X ?c8T ?c8l ?c8k ?c8v ?c8u ?c8b ?_; (case c8o => rfl); (case c8F => k_asm); (case c8X => k_asm); (case c8T => k_asm); (case c8l => first | with_reducible assumption | k_is); (case c8k => first | exact rfl | assumption); (case c8v => k_extra "evk"); (case c8u => k_extra "evk"); (case c8b => with_unfolding_all rfl); k_whole))
  k_with "hdr9 eval" => ((with_reducible show PySem.wpAny _ _ (PySem.eval (PySem.Expr.Slice _ _ none _) _) _ _ _); (fail_if_success (have := (by with_reducible assumption : Mine.Md 9))); (fail_if_success (have := (by with_reducible assumption : Mine.Md 22))); (k_dflt refine' Mine.slice_ev ?c8o ?c8F ?c8X ?c8T ?c8l ?c8k ?c8v ?c8u ?_; (case c8o => rfl); (case c8F => k_asm); (case c8X => k_asm); (case c8T => k_asm); (case c8l => first | with_reducible assumption | k_is); (case c8k => first | exact rfl | assumption); (case c8v => k_extra "evk"); (case c8u => k_extra "evk"); k_whole))
  k_with "hdr9 eval" => ((with_reducible show PySem.wpAny _ _ (PySem.eval (PySem.Expr.Subscript _ _ _) _) _ _ _); (k_dflt refine' Mine.sub_ev ?c8o ?c8F ?c8X ?c8T ?c8l ?c8k ?c8v ?c8u ?_; (case c8o => rfl); (case c8F => k_asm); (case c8X => k_asm); (case c8T => k_asm); (case c8l => first | with_reducible assumption | k_is); (case c8k => first | exact rfl | assumption); (case c8v => k_extra "evk"); (case c8u => k_extra "evk"); k_whole))
  k_with "hdr9 call" => ((with_reducible show PySem.wpAny _ _ (PySem.call (PySem.Value.builtin "len") [PySem.Value.str _ _]) _ _ _); (with_reducible refine Mine.len_s ?c8b ?_); (case c8b => first | with_reducible assumption | exact Nat.le_trans (by with_reducible assumption) (by decide)))
  k_with "hdr9 call" => ((with_reducible show PySem.wpAny _ _ (PySem.call (PySem.Value.ref _) _ _) _ _ _); k_dflt ((refine PySem.wpAny_call ?_); k_enter))
  k_with "hdr9 call" => ((with_reducible show PySem.wpAny _ _ (PySem.call (PySem.Value.ref _) _ _) _ _ _); k_extra "call ref")
  k_with "hdr9 call" => ((with_reducible show PySem.wpAny _ _ (PySem.call (PySem.Value.builtin "list.append") [PySem.Value.ref _, _] _) _ _ _); (k_dflt refine' Mine.append_led ?c8kf ?c8kn ?c8ku ?c8kz ?_; (case c8kf => k_asm); (case c8kn => k_asm); (case c8ku => k_upd); (case c8kz => (rw [PySem.sizeLine_eq]; first | decide | exact Nat.le_trans (by with_reducible assumption) (by decide) | exact Nat.le_trans (Nat.succ_le_succ (by with_reducible assumption)) (by decide) | (first | lia | omega))); k_whole); intro h_h F_h n_h N_h; (try dsimp only); (try k_fold))
  k_with "hdr9 call" => ((with_reducible show PySem.wpAny _ _ (PySem.call (PySem.Value.builtin "list.extend") [PySem.Value.ref _, PySem.Value.ref _] _) _ _ _); (k_dflt refine' Mine.extend_2 ?c8kf ?c8kn ?c8ku ?c8kv ?c8kz ?_; (case c8kf => k_asm); (case c8kn => k_asm); (case c8ku => k_ne); (case c8kv => k_all); (case c8kz => (rw [PySem.sizeLine_eq]; first | decide | exact Nat.le_trans (by with_reducible assumption) (by decide) | exact Nat.le_trans (Nat.succ_le_succ (by with_reducible assumption)) (by decide) | (first | lia | omega))); k_whole); intro h_h n_h F_h N_h; (try dsimp only); (try k_fold))
  k_with "hdr9 call" => ((with_reducible show PySem.wpAny _ _ (PySem.call (PySem.Value.builtin "len") [PySem.Value.ref _]) _ _ _); (k_dflt refine' PyProof.Rows.len_list ?c8kl ?c8kf ?_; (case c8kl => exact PyProof.Rows.News.isList (by k_asm) (by k_mem)); (case c8kf => (simp only [List.size_toArray]; (first | lia | omega))); k_whole); (try simp only [List.size_toArray]))
  k_with "hdr9 call" => ((with_reducible show PySem.wpAny _ _ (PySem.call (PySem.Value.builtin "str.join") [PySem.Value.str _ _, PySem.Value.ref _]) _ _ _); (k_dflt refine' Mine.call_join_chs ?c8kn ?c8km ?c8kc ?c8kb ?_; (case c8kn => k_asm); (case c8km => k_mem); (case c8kc => with_reducible assumption); (case c8kb => first | with_reducible assumption | (first | lia | omega)); k_whole); intro t_h k_h; (try dsimp only); (try k_fold))
  k_with "hdr9 call" => with_reducible refine Mine.stop_enum ?_
  k_with "hdr9 call" => ((with_reducible show PySem.wpAny _ _ (PySem.call (PySem.Value.builtin "sorted") [PySem.Value.ref _]) _ _ _); (k_dflt refine' Mine.sorted_two ?c8hF ?c8hN ?c8h1 ?_; (case c8hF => k_asm); (case c8hN => k_asm); (case c8h1 => k_mem)); intro d_h h_h lo_h hi_h t_h u_h e_h F_h n_h N_h l_h hlo_h hab_h; (try dsimp only); (try k_fold))
  k_with "hdr9 call" => ((with_reducible show PySem.wpAny _ _ (PySem.call (PySem.Value.builtin "str.join") [PySem.Value.str _ _, PySem.Value.ref _]) _ _ _); (k_dflt refine' Mine.call_join_tok ?c8kn ?c8km ?c8kc ?c8kb ?c8k0 ?c8ky ?_; (case c8kn => k_asm); (case c8km => k_mem); (case c8kc => with_reducible assumption); (case c8kb => first | with_reducible assumption | (first | lia | omega)); (case c8k0 => with_reducible assumption); (case c8ky => with_reducible assumption); k_whole); intro t_h k_h le_h p_h lt_h; (try dsimp only at le_h); (try dsimp only); (try k_fold))
  k_with "hdr9 exec" => with_reducible refine Mine.stop_for ?_
  k_with "hdr9 exec" => with_reducible refine Mine.stop_while ?_
  k_with "hdr9 exec" => with_reducible refine Mine.stop_asg ?_
  k_with "hdr9 exec" => ((with_reducible show PySem.wpAny _ _ (PySem.exec (PySem.Stmt.Assign [PySem.Expr.Name _ _] _ _) _) _ _ _); (k_dflt refine' Mine.asg_ev ?c8o ?c8F ?c8N ?c8X ?c8T ?c8l ?c8k ?c8v ?c8x ?c8s ?_; (case c8N => k_asm); (case c8F => k_asm); (case c8X => k_asm); (case c8T => k_asm); (case c8l => first | with_reducible assumption | k_is); (case c8k => first | exact rfl | assumption); (case c8v => k_extra "evk"); (case c8x => exact rfl); (case c8s => exact rfl); k_whole); intro h_h m_h F_h N_h; (try k_sweep))
  k_with "hdr9 exec" => ((with_reducible show PySem.wpAny _ _ (PySem.exec (PySem.Stmt.Return (some _) _) _) _ _ _); (k_dflt refine' Mine.ret_ev ?c8o ?c8F ?c8X ?c8T ?c8l ?c8k ?c8v ?_; (case c8o => rfl); (case c8F => k_asm); (case c8X => k_asm); (case c8T => k_asm); (case c8l => first | with_reducible assumption | k_is); (case c8k => first | exact rfl | assumption); (case c8v => k_extra "evk"); k_whole))
  k_with "hdr9 subscriptTail" => ((with_reducible show PySem.wpAny _ _ (PyProof.Rows.subscriptTail _ _ (PySem.Value.str _ _) (PySem.Value.int _ _)) _ _ _); (k_dflt refine' Mine.item_s ?c8x ?c8y ?c8b ?c8s ?c8t ?_; (case c8x => first | with_reducible assumption | exact Int.natCast_nonneg _ | exact Mine.nn1 | exact Mine.nn2); (case c8y => with_reducible assumption); (case c8b => first | with_reducible assumption | exact Nat.le_trans (by with_reducible assumption) (by decide)); (case c8s => with_unfolding_all rfl); (case c8t => (intro _; with_unfolding_all rfl)); k_whole); intro _)
  k_with "hdr9 subscriptTail" => ((with_reducible show PySem.wpAny _ _ (PyProof.Rows.subscriptTail _ _ (PySem.Value.ref _) (PySem.Value.int 0 _)) _ _ _); (k_dflt refine' Mine.item_0 ?c8ki ?c8kj ?_; (case c8ki => k_asm); (case c8kj => k_mem); k_whole))
  k_with "hdr9 subscriptTail" => ((with_reducible show PySem.wpAny _ _ (PyProof.Rows.subscriptTail _ _ (PySem.Value.ref _) (PySem.Value.int 1 _)) _ _ _); (k_dflt refine' Mine.item_1 ?c8ki ?c8kj ?_; (case c8ki => k_asm); (case c8kj => k_mem); k_whole))
  k_with "hdr9 subscriptTail" => ((with_reducible show PySem.wpAny _ _ (PyProof.Rows.subscriptTail _ _ (PySem.Value.ref _) (PySem.Value.int 2 _)) _ _ _); (k_dflt refine' Mine.item_2 ?c8ki ?c8kj ?_; (case c8ki => k_asm); (case c8kj => k_mem); k_whole))
  k_with "hdr9 subscriptTail" => ((with_reducible show PySem.wpAny _ _ (PyProof.Rows.subscriptTail _ _ (PySem.Value.ref _) (PySem.Value.int 3 _)) _ _ _); (k_dflt refine' Mine.item_3 ?c8ki ?c8kj ?_; (case c8ki => k_asm); (case c8kj => k_mem); k_whole))
  k_with "hdr9 subscriptTail" => ((with_reducible show PySem.wpAny _ _ (PyProof.Rows.subscriptTail _ _ (PySem.Value.ref _) (PySem.Value.int (-1) _)) _ _ _); (k_dflt refine' Mine.item_last ?c8ki ?c8kj ?_; (case c8ki => k_asm); (case c8kj => k_mem); k_whole))
  k_with "hdr9 subscriptTail" => ((with_reducible show PySem.wpAny _ _ (PyProof.Rows.subscriptTail _ (PySem.Expr.Call _ _ _ _) (PySem.Value.str _ _) (PySem.Value.int _ _)) _ _ _); (k_dflt refine' Mine.item_pick ?c8h0 ?c8h1 ?c8hx ?_; (case c8h0 => (first | lia | omega)); (case c8h1 => (first | lia | omega)); (case c8hx => (first | lia | omega))); intro c_h hc_h; (try dsimp only); (try k_fold))
  k_with "hdr9 isTrue" => ((with_reducible show PySem.wpAny _ _ (PySem.isTrue (PySem.Expr.Compare _ [_] [_] _) _ _) _ _ _); (k_dflt refine' Mine.isTc_ev ?c8o ?c8F ?c8X ?c8T ?c8l ?c8k ?c8v ?c8u ?c8b ?_; (case c8o => rfl); (case c8F => k_asm); (case c8X => k_asm); (case c8T => k_asm); (case c8l => first | with_reducible assumption | k_is); (case c8k => first | exact rfl | assumption); (case c8v => k_extra "evk"); (case c8u => k_extra "evk"); (case c8b => with_unfolding_all rfl); k_whole))
  k_with "hdr9 isTrue" => ((with_reducible show PySem.wpAny _ _ (PySem.isTrue (PySem.Expr.Compare _ [PySem.CmpOp.Lt] [_] _) _ _) _ _ _); (k_dflt refine' Mine.isT_lt ?c8o ?c8F ?c8X ?c8T ?c8l ?c8k ?c8v ?c8u ?c8b ?_ ?_; (case c8o => rfl); (case c8F => k_asm); (case c8X => k_asm); (case c8T => k_asm); (case c8l => first | with_reducible assumption | k_is); (case c8k => first | exact rfl | assumption); (case c8v => k_extra "evk"); (case c8u => k_extra "evk"); (case c8b => with_unfolding_all rfl)); all_goals (intro a_h; first | exact absurd a_h (by decide) | exact absurd (by decide) a_h | exact absurd a_h (Int.not_lt.mpr (Int.natCast_nonneg _)) | exact absurd (Int.natCast_nonneg _) a_h | skip))
  k_with "hdr9 isTrue" => ((with_reducible show PySem.wpAny _ _ (PySem.isTrue (PySem.Expr.Compare _ [PySem.CmpOp.LtE] [_] _) _ _) _ _ _); (k_dflt refine' Mine.isT_le ?c8o ?c8F ?c8X ?c8T ?c8l ?c8k ?c8v ?c8u ?c8b ?_ ?_; (case c8o => rfl); (case c8F => k_asm); (case c8X => k_asm); (case c8T => k_asm); (case c8l => first | with_reducible assumption | k_is); (case c8k => first | exact rfl | assumption); (case c8v => k_extra "evk"); (case c8u => k_extra "evk"); (case c8b => with_unfolding_all rfl)); all_goals (intro a_h; first | exact absurd a_h (by decide) | exact absurd (by decide) a_h | exact absurd a_h (Int.not_lt.mpr (Int.natCast_nonneg _)) | exact absurd (Int.natCast_nonneg _) a_h | skip))
  k_with "hdr9 isTrue" => ((with_reducible show PySem.wpAny _ _ (PySem.isTrue (PySem.Expr.Compare _ [PySem.CmpOp.Gt] [_] _) _ _) _ _ _); (k_dflt refine' Mine.isT_gt ?c8o ?c8F ?c8X ?c8T ?c8l ?c8k ?c8v ?c8u ?c8b ?_ ?_; (case c8o => rfl); (case c8F => k_asm); (case c8X => k_asm); (case c8T => k_asm); (case c8l => first | with_reducible assumption | k_is); (case c8k => first | exact rfl | assumption); (case c8v => k_extra "evk"); (case c8u => k_extra "evk"); (case c8b => with_unfolding_all rfl)); all_goals (intro a_h; first | exact absurd a_h (by decide) | exact absurd (by decide) a_h | exact absurd a_h (Int.not_lt.mpr (Int.natCast_nonneg _)) | exact absurd (Int.natCast_nonneg _) a_h | skip))
  k_with "hdr9 isTrue" => ((with_reducible show PySem.wpAny _ _ (PySem.isTrue (PySem.Expr.Compare _ [PySem.CmpOp.GtE] [_] _) _ _) _ _ _); (k_dflt refine' Mine.isT_ge ?c8o ?c8F ?c8X ?c8T ?c8l ?c8k ?c8v ?c8u ?c8b ?_ ?_; (case c8o => rfl); (case c8F => k_asm); (case c8X => k_asm); (case c8T => k_asm); (case c8l => first | with_reducible assumption | k_is); (case c8k => first | exact rfl | assumption); (case c8v => k_extra "evk"); (case c8u => k_extra "evk"); (case c8b => with_unfolding_all rfl)); all_goals (intro a_h; first | exact absurd a_h (by decide) | exact absurd (by decide) a_h | exact absurd a_h (Int.not_lt.mpr (Int.natCast_nonneg _)) | exact absurd (Int.natCast_nonneg _) a_h | skip))
  k_with "hdr9 isTrue" => ((with_reducible show PySem.wpAny _ _ (PySem.isTrue (PySem.Expr.Compare _ [PySem.CmpOp.Eq] [_] _) _ _) _ _ _); (k_dflt refine' Mine.isT_eq ?c8o ?c8F ?c8X ?c8T ?c8l ?c8k ?c8v ?c8u ?c8b ?_ ?_; (case c8o => rfl); (case c8F => k_asm); (case c8X => k_asm); (case c8T => k_asm); (case c8l => first | with_reducible assumption | k_is); (case c8k => first | exact rfl | assumption); (case c8v => k_extra "evk"); (case c8u => k_extra "evk"); (case c8b => with_unfolding_all rfl)); all_goals (intro a_h; first | exact absurd a_h (by decide) | exact absurd (by decide) a_h | exact absurd a_h (Int.not_lt.mpr (Int.natCast_nonneg _)) | exact absurd (Int.natCast_nonneg _) a_h | skip))
  k_with "hdr9 isTrue" => ((with_reducible show PySem.wpAny _ _ (PySem.isTrue (PySem.Expr.Compare _ [PySem.CmpOp.NotEq] [_] _) _ _) _ _ _); (k_dflt refine' Mine.isT_ne ?c8o ?c8F ?c8X ?c8T ?c8l ?c8k ?c8v ?c8u ?c8b ?_ ?_; (case c8o => rfl); (case c8F => k_asm); (case c8X => k_asm); (case c8T => k_asm); (case c8l => first | with_reducible assumption | k_is); (case c8k => first | exact rfl | assumption); (case c8v => k_extra "evk"); (case c8u => k_extra "evk"); (case c8b => with_unfolding_all rfl)); all_goals (intro a_h; first | exact absurd a_h (by decide) | exact absurd (by decide) a_h | exact absurd a_h (Int.not_lt.mpr (Int.natCast_nonneg _)) | exact absurd (Int.natCast_nonneg _) a_h | skip))
  k_with "hdr9 execs" => ((with_reducible show PySem.wpAny _ _ (PySem.execs (_ :: _) _) _ _ _); (try ((fail_if_success (fail_if_success (with_reducible show PySem.wpAny _ _ _ _ _ (PySem.Shared.mk _ _ _ (_ + 1) _)))); (with_reducible refine Mine.toksg ?_); intro tk_h)); (with_reducible refine Mine.opq ?_); intro Qs_h hQs_h)
  k_with "hdr9 execs" => ((with_reducible show PySem.wpAny _ _ (PySem.execs (_ :: _) _) _ _ _); (fail_if_success (fail_if_success (first | with_reducible refine Mine.isS (by with_reducible assumption) ?_ | with_reducible refine Mine.isO (by with_reducible assumption) ?_))); first | ((fail_if_success (fail_if_success (with_reducible show PySem.wpAny _ _ _ _ _ (PySem.Shared.mk _ _ _ (_ + 1) _)))); first | ((with_reducible refine Mine.execs_oneg ?_); intro tk_h) | ((with_reducible refine Mine.opqSg ?_); intro tk_h Qs_h hQs_h)) | (with_reducible refine Mine.execs_one ?_) | ((with_reducible refine Mine.opqS ?_); intro Qs_h hQs_h))
  k_with "hdr9 storeName" => ((with_reducible show PySem.wpAny _ _ (PySem.storeName _ _ _) _ _ _); (k_dflt refine' Mine.store_c ?c8F ?c8N ?c8c ?c8U ?c8d ?_ ?c8a ?c8b; (case c8a => first | exact rfl | assumption); (case c8b => exact rfl); (case c8F => k_asm); (case c8N => k_asm); (case c8c => exact rfl); (case c8U => k_updF); (case c8d => k_asm); k_whole); intro h_h o_h F_h n_h N_h d_h; (try k_sweep))
  k_with "hdr9 storeName" => ((with_reducible show PySem.wpAny _ _ (PySem.storeName _ _ _) _ _ _); (k_dflt refine' Mine.store_u ?c8F ?c8N ?_ ?c8a ?c8b; (case c8F => k_asm); (case c8N => k_asm); (case c8a => first | exact rfl | assumption); (case c8b => exact rfl); k_whole); intro h_h m_h F_h N_h; (try k_sweep))
  k_with "hdr9 binaryOp" => ((with_reducible show PySem.wpAny _ _ (PySem.binaryOp PySem.Operator.Add (PySem.Value.ref _) (PySem.Value.ref _)) _ _ _); (k_dflt refine' Mine.add_led ?c8hF ?c8hN ?c8h1 ?c8h2 ?c8hz ?_; (case c8hF => k_asm); (case c8hN => k_asm); (case c8h1 => k_mem); (case c8h2 => k_mem); (case c8hz => ((try simp only [List.length_cons, List.length_nil]); first | exact Nat.le_trans (Nat.add_le_add_right (by with_reducible assumption) _) (by decide) | (first | lia | omega)))); intro d_h h_h F_h n_h N_h l_h; (try dsimp only); (try k_fold))
  k_with "hdr9 spliced" => ((with_reducible show PySem.wpAny _ _ (PySem.spliced (PySem.backTo _ (PySem.starEach (_ :: _) _))) _ _ _); (k_dflt refine' Mine.args_ev ?c8o ?c8F ?c8X ?c8T ?c8l ?c8k ?c8v ?_; (case c8o => rfl); (case c8F => k_asm); (case c8X => k_asm); (case c8T => k_asm); (case c8l => first | with_reducible assumption | k_is); (case c8k => first | exact rfl | assumption); (case c8v => k_extra "evk"); k_whole); (try dsimp only [List.nil_append, List.cons_append]))
  k_with "hdr9 pyIter" => with_reducible refine Mine.stop_iter ?_
  k_with "hdr9 newList" => ((with_reducible show PySem.wpAny _ _ (PySem.newList _) _ _ _); (k_dflt refine' Mine.newList_L ?c8F ?c8N ?c8z ?_; (case c8F => k_asm); (case c8N => k_asm); (case c8z => first | exact Nat.le_of_ble_eq_true rfl | size_fits); k_whole); intro l_h h_h F_h n_h N_h a_h; (try k_sweep))
  k_with "hdr9 newTuple" => ((with_reducible show PySem.wpAny _ _ (PySem.newTuple _) _ _ _); (k_dflt refine' Mine.newTuple_L ?c8F ?c8N ?c8z ?_; (case c8F => k_asm); (case c8N => k_asm); (case c8z => first | exact Nat.le_of_ble_eq_true rfl | size_fits); k_whole); intro l_h h_h F_h n_h N_h a_h; (try k_sweep))
  k_with "hdr9 other" => (with_reducible refine Mine.SubQ.go (by with_reducible assumption) ?_; (try dsimp only))
  k_with "hdr9 other" => with_reducible refine Mine.SeqQ.cont (by with_reducible assumption) ?_
  k_with "hdr9 other" => with_reducible refine Mine.SeqQ.brk (by with_reducible assumption) ?_
  k_with "hdr9 other" => with_reducible refine Mine.SeqQ.ret (by with_reducible assumption) ?_
  k_with "hdr9 other" => with_reducible refine Mine.CyQ.out (by with_reducible assumption) (by with_reducible assumption) (by with_reducible assumption) ?_
  k_with "hdr9 other" => ((with_reducible refine Mine.CtQ.both (by with_reducible assumption) (by with_reducible assumption) (by with_reducible assumption) ?_ ?_) <;> intro b_h)
  k_with "hdr9 other" => with_reducible refine Mine.CtQ.no (by with_reducible assumption) (by with_reducible assumption) (by with_reducible assumption) ?_
  k_with "hdr9 other" => with_reducible refine Mine.CtQ.yes (by with_reducible assumption) ?_
  k_with "hdr9 other" => with_reducible refine Mine.SeqQ.next (by with_reducible assumption) ?_
  k_with "hdr9 other" => with_reducible refine Mine.stop_ksw ?_
  k_with "hdr9 other" => with_reducible refine Mine.stop_src ?_
  k_with "hdr9 other" => with_reducible refine Mine.stop_srcT ?_
  k_with "hdr9 other" => with_reducible refine Mine.stop_srcS ?_
  k_with "hdr9 other" => with_reducible refine Mine.stop_end ?_
  k_with "hdr9 other" => with_reducible refine Mine.stop_turn ?_
  k_with "hdr9 other" => with_reducible refine Mine.stop_turnC ?_
  k_with "hdr9 other" => with_reducible refine Mine.TurnP.ret ?_
  k_with "hdr9" => (first | ((with_reducible show PySem.wpAny _ _ _ _ _ _); first | ((with_reducible show PySem.wpAny _ _ (PySem.eval _ _) _ _ _); k_extra "hdr9 eval") | ((with_reducible show PySem.wpAny _ _ (PySem.call _ _ _) _ _ _); k_extra "hdr9 call") | ((with_reducible show PySem.wpAny _ _ (PySem.exec _ _) _ _ _); k_extra "hdr9 exec") | ((with_reducible show PySem.wpAny _ _ (PyProof.Rows.subscriptTail _ _ _ _) _ _ _); k_extra "hdr9 subscriptTail") | ((with_reducible show PySem.wpAny _ _ (PySem.isTrue _ _ _) _ _ _); k_extra "hdr9 isTrue") | ((with_reducible show PySem.wpAny _ _ (PySem.execs _ _) _ _ _); k_extra "hdr9 execs") | ((with_reducible show PySem.wpAny _ _ (PySem.storeName _ _ _) _ _ _); k_extra "hdr9 storeName") | ((with_reducible show PySem.wpAny _ _ (PySem.binaryOp _ _ _) _ _ _); k_extra "hdr9 binaryOp") | ((with_reducible show PySem.wpAny _ _ (PySem.spliced _) _ _ _); k_extra "hdr9 spliced") | ((with_reducible show PySem.wpAny _ _ (PySem.pyIter _) _ _ _); k_extra "hdr9 pyIter") | ((with_reducible show PySem.wpAny _ _ (PySem.newList _) _ _ _); k_extra "hdr9 newList") | ((with_reducible show PySem.wpAny _ _ (PySem.newTuple _) _ _ _); k_extra "hdr9 newTuple") | fail) | ((fail_if_success (with_reducible show PySem.wpAny _ _ _ _ _ _)); k_extra "hdr9 other"))
  k_with "mineS21 eval" => ((with_reducible show PySem.wpAny _ _ (PySem.eval (PySem.Expr.IfExp _ _ _ _) _) _ _ _); (fail_if_success (fail_if_success (have := (by with_reducible assumption : Mine.Md 31)))); with_reducible refine Mine.stop_ifexp ?_)
  k_with "mineS21 call" => ((with_reducible show PySem.wpAny _ _ (PySem.call (PySem.Value.ref 441) _ _) _ _ _); (fail_if_success (fail_if_success (have := (by with_reducible assumption : Mine.Md 31)))); (fail_if_success (have := (by with_reducible assumption : Mine.Md 32))); with_reducible refine Mine.Stop.out ?_)
  k_with "mineS21 call" => ((with_reducible show PySem.wpAny _ _ (PySem.call (PySem.Value.ref 353) _ _) _ _ _); (fail_if_success (fail_if_success (have := (by with_reducible assumption : Mine.Md 31)))); with_reducible refine Mine.Stop.out ?_)
  k_with "mineS21 compareOp" => ((with_reducible show PySem.wpAny _ _ (PySem.compareOp PySem.CmpOp.NotEq _ _) _ _ _); (fail_if_success (fail_if_success (have := (by with_reducible assumption : Mine.Md 31)))); with_reducible refine Mine.Stop.out ?_)
  k_with "mineS21" => (first | ((with_reducible show PySem.wpAny _ _ _ _ _ _); first | ((with_reducible show PySem.wpAny _ _ (PySem.eval _ _) _ _ _); k_extra "mineS21 eval") | ((with_reducible show PySem.wpAny _ _ (PySem.call _ _ _) _ _ _); k_extra "mineS21 call") | ((with_reducible show PySem.wpAny _ _ (PySem.compareOp _ _ _) _ _ _); k_extra "mineS21 compareOp") | fail))
  intro w b o sm c x tx y ty hB hc hx hy
  unfold BoxT
  intro rest hoff
  have hmd : Md 31 := Md.on 31
  k_with "call ref" => ((with_reducible show PySem.wpAny _ _ (PySem.call (PySem.Value.ref 434) _ _) _ _ _); k_dflt (refine' Mine.take_use take2_spec ?c7hB ?c7hc ?c7hm ?c7hm2 ?c7k1 ?c7k2 ?c7k3 ?c7k4 ?c7kU ?c7k5 ?c7kK ?c7kd ?c7ku ?_; (case c7k1 => k_asm); (case c7k2 => k_asm); (case c7k3 => k_asm); (case c7k4 => k_asm); (case c7kU => k_updF); (case c7hB => with_reducible assumption); (case c7hc => first | with_reducible assumption | (with_reducible refine Mine.bx1 (by with_reducible assumption) ?_; decide) | (with_reducible refine Mine.bx2 (by with_reducible assumption) ?_; decide) | (with_reducible refine Mine.bx3 (by with_reducible assumption) ?_; decide) | (with_reducible refine Mine.bx4 (by with_reducible assumption) ?_; decide) | (with_reducible refine Mine.bx5 (by with_reducible assumption) ?_; decide) | (with_reducible refine Mine.bx6 (by with_reducible assumption) ?_; decide) | (with_reducible refine Mine.bx7 (by with_reducible assumption) ?_; decide) | (with_reducible refine Int.lt_trans (by with_reducible assumption) ?_; decide) | (first | lia | omega)); (case c7hm => first | decide | (first | lia | omega)); (case c7hm2 => first | decide | (first | lia | omega)); (case c7k5 => k_asm); (case c7kK => first | exact rfl | assumption); (case c7kd => k_room); (case c7ku => k_units)); intro o9 d9 t9 h9 tk9 le9 F9 n9 N9 hB9 hd9 hd9'; (try dsimp only at le9); (try dsimp only at N9); (try dsimp only); (try k_fold))
  k_with "call ref" => ((with_reducible show PySem.wpAny _ _ (PySem.call (PySem.Value.ref 468) _ _) _ _ _); k_dflt (refine' Mine.Fn.useL (spots_spec _ _ _ _ _ _ ?c7hx ?c7hy) ?c7k1 ?c7k2 ?c7k3 ?c7k4 ?c7k5 ?c7kK ?c7kd ?c7ku ?_; (case c7k1 => k_asm); (case c7k2 => k_asm); (case c7k3 => k_asm); (case c7k4 => k_asm); (case c7k5 => k_asm); (case c7hx => first | with_reducible assumption | exact Nat.le_trans (by with_reducible assumption) (by decide) | (first | lia | omega)); (case c7hy => first | with_reducible assumption | exact Nat.le_trans (by with_reducible assumption) (by decide) | (first | lia | omega)); (case c7kK => first | exact rfl | assumption); (case c7kd => k_room); (case c7ku => k_units)); intro a9 vs9 k9 h9 tk9 le9 F9 n9 N9 hC9 l9; (try dsimp only at le9); have hl9 := Mine.Nats.length hC9; (try dsimp only); (try k_fold))
  k_with "call ref" => ((with_reducible show PySem.wpAny _ _ (PySem.call (PySem.Value.ref 441) _ _) _ _ _); k_dflt (refine' Mine.thing_use thing_spec ?c7k1 ?c7k2 ?c7k3 ?c7k4 ?c7k5 ?c7kK ?c7kd ?c7ku ?_; (case c7k1 => k_asm); (case c7k2 => k_asm); (case c7k3 => k_asm); (case c7k4 => k_asm); (case c7k5 => k_asm); (case c7kK => first | exact rfl | assumption); (case c7kd => k_room); (case c7ku => k_units)); intro a9 dx9 f9 q1 q2 q3 q4 q5 q6 q7 q0 h9 tk9 le9 F9 n9 N9 l9 d9 m9; (try dsimp only at le9); have e9 : @LT.lt Nat _ dx9 a9 := d9; (try dsimp only); (try k_fold))
  k_with "call ref" => ((with_reducible show PySem.wpAny _ _ (PySem.call (PySem.Value.ref 360) _ _) _ _ _); k_dflt (refine' Mine.Fn.useG (index_spec _ _ _ _ _ _ _ _ _ _ _ _ ?c7hT1 ?c7hT2 ?c7hm ?c7hx ?c7hy ?c7hi ?c7hj) ?c7k1 ?c7k2 ?c7k3 ?c7k4 ?c7k5 ?c7kK ?c7kd ?c7ku ?_; (case c7k1 => k_asm); (case c7k2 => k_asm); (case c7k3 => k_asm); (case c7k4 => k_asm); (case c7k5 => k_asm); (case c7hm => with_reducible exact List.mem_cons_self); (case c7hT1 => exact Mine.thing_in (by k_mem) (by k_mem)); (case c7hT2 => exact Mine.thing_in (by k_mem) (by k_mem)); (case c7hx => first | with_reducible assumption | exact Nat.le_trans (by with_reducible assumption) (by decide) | (first | lia | omega)); (case c7hy => first | with_reducible assumption | exact Nat.le_trans (by with_reducible assumption) (by decide) | (first | lia | omega)); (case c7hi => (first | lia | omega)); (case c7hj => (first | lia | omega)); (case c7kK => first | exact rfl | assumption); (case c7kd => k_room); (case c7ku => k_units)); intro t9 h9 tk9 le9 F9 N9; (try dsimp only); (try k_fold))
  k_with "call ref" => ((with_reducible show PySem.wpAny _ _ (PySem.call (PySem.Value.ref 360) _ _) _ _ _); k_dflt (refine' Mine.Fn.useG (index1_spec _ _ _ _ _ _ _ _ _ _ ?c7hT1 ?c7hT2 ?c7hm ?c7hx ?c7hy) ?c7k1 ?c7k2 ?c7k3 ?c7k4 ?c7k5 ?c7kK ?c7kd ?c7ku ?_; (case c7k1 => k_asm); (case c7k2 => k_asm); (case c7k3 => k_asm); (case c7k4 => k_asm); (case c7k5 => k_asm); (case c7hm => with_reducible exact List.mem_cons_self); (case c7hT1 => exact Mine.thing_in (by k_mem) (by k_mem)); (case c7hT2 => exact Mine.thing_in (by k_mem) (by k_mem)); (case c7hx => first | with_reducible assumption | exact Nat.le_trans (by with_reducible assumption) (by decide) | (first | lia | omega)); (case c7hy => first | with_reducible assumption | exact Nat.le_trans (by with_reducible assumption) (by decide) | (first | lia | omega)); (case c7kK => first | exact rfl | assumption); (case c7kd => k_room); (case c7ku => k_units)); intro t9 h9 tk9 le9 F9 N9; (try dsimp only); (try k_fold))
  k_with "call ref" => ((with_reducible show PySem.wpAny _ _ (PySem.call (PySem.Value.ref 367) _ _) _ _ _); k_dflt (refine' Mine.Fn.useG (rindex_spec _ _ _ _ _ _ _ _ _ _ _ _ ?c7hT1 ?c7hT2 ?c7hm ?c7hx ?c7hy ?c7hi ?c7hj) ?c7k1 ?c7k2 ?c7k3 ?c7k4 ?c7k5 ?c7kK ?c7kd ?c7ku ?_; (case c7k1 => k_asm); (case c7k2 => k_asm); (case c7k3 => k_asm); (case c7k4 => k_asm); (case c7k5 => k_asm); (case c7hm => with_reducible exact List.mem_cons_self); (case c7hT1 => exact Mine.thing_in (by k_mem) (by k_mem)); (case c7hT2 => exact Mine.thing_in (by k_mem) (by k_mem)); (case c7hx => first | with_reducible assumption | exact Nat.le_trans (by with_reducible assumption) (by decide) | (first | lia | omega)); (case c7hy => first | with_reducible assumption | exact Nat.le_trans (by with_reducible assumption) (by decide) | (first | lia | omega)); (case c7hi => (first | lia | omega)); (case c7hj => (first | lia | omega)); (case c7kK => first | exact rfl | assumption); (case c7kd => k_room); (case c7ku => k_units)); intro t9 h9 tk9 le9 F9 N9; (try dsimp only); (try k_fold))
  k_with "call ref" => ((with_reducible show PySem.wpAny _ _ (PySem.call (PySem.Value.ref 367) _ _) _ _ _); k_dflt (refine' Mine.Fn.useG (rindex1_spec _ _ _ _ _ _ _ _ _ _ ?c7hT1 ?c7hT2 ?c7hm ?c7hx ?c7hy) ?c7k1 ?c7k2 ?c7k3 ?c7k4 ?c7k5 ?c7kK ?c7kd ?c7ku ?_; (case c7k1 => k_asm); (case c7k2 => k_asm); (case c7k3 => k_asm); (case c7k4 => k_asm); (case c7k5 => k_asm); (case c7hm => with_reducible exact List.mem_cons_self); (case c7hT1 => exact Mine.thing_in (by k_mem) (by k_mem)); (case c7hT2 => exact Mine.thing_in (by k_mem) (by k_mem)); (case c7hx => first | with_reducible assumption | exact Nat.le_trans (by with_reducible assumption) (by decide) | (first | lia | omega)); (case c7hy => first | with_reducible assumption | exact Nat.le_trans (by with_reducible assumption) (by decide) | (first | lia | omega)); (case c7kK => first | exact rfl | assumption); (case c7kd => k_room); (case c7ku => k_units)); intro t9 h9 tk9 le9 F9 N9; (try dsimp only); (try k_fold))
  unfold Fn
  intro p loose mean mg mb dp un gd cn cs a ccd cl outer A₀ base h₀ L m s Q E B F X N T hk hd hu hret
  refine wpAny_call ?_
  k_dflt (refine' Mine.code_defCL [Str.ofString "box", Str.ofString "text", Str.ofString "sought"] [(Str.ofString "sought", _), (Str.ofString "text", _), (Str.ofString "box", _)] (fun L' => [(L' + 1, none)]) ?k1 ?k2 ?k3 ?k4 ?k5 ?kA ?kF ?kK ?k6 ?k7 ?k8 ?k9 ?kB ?kD ?kE ?kG ?_ ?c2 ?c3 ?c4; (case kA => exact rfl); (case kF => exact rfl); (case kK => assumption); (case k1 => k_asm); (case k2 => k_asm); (case k3 => k_asm); (case k4 => k_asm); (case k5 => k_asm); (case k6 => k_is); (case k7 => k_is); (case k8 => first | exact Mine.rm0 (by with_reducible assumption) | ktr_room); (case k9 => exact rfl); (case kB => exact rfl); (case kD => decide +kernel); (case kE => exact rfl); (case kG => exact fun _ => rfl); (case c2 => exact rfl); (case c3 => exact rfl); (case c4 => exact rfl); k_whole; intro g' L' h' tk' FG' F' B' X' T' l1 o' d1' N' e_h A_h; (try k_lift B'); (try k_fold))
  refine Mine.opq ?_
  intro Qr hQr
  have hlocs_h : Mine.Names [Str.ofString "box", Str.ofString "text", Str.ofString "sought", Str.ofString "spots", Str.ofString "start", Str.ofString "one", Str.ofString "thing", Str.ofString "far", Str.ofString "near", Str.ofString "at", Str.ofString "spot", Str.ofString "fresh", Str.ofString "answer"] := trivial
  have hlen_h := Mine.len_of (by assumption) (by k_is)
  rename Fr _ _ _ _ => F0_h
  replace F0_h : Fr _ _ _ (Mine.lk [(Str.ofString "sought", _), (Str.ofString "text", _), (Str.ofString "box", _)]) := F0_h
  k_steps
  refine Stop.go ?_
  (((with_reducible show PySem.wpAny _ _ (PySem.call (PySem.Value.ref 441) _ _) _ _ _); k_dflt (refine' Mine.thing_use thing_spec ?c7k1 ?c7k2 ?c7k3 ?c7k4 ?c7k5 ?c7kK ?c7kd ?c7ku ?_; (case c7k1 => k_asm); (case c7k2 => k_asm); (case c7k3 => k_asm); (case c7k4 => k_asm); (case c7k5 => k_asm); (case c7kK => first | exact rfl | assumption); (case c7kd => k_room); (case c7ku => k_units)); intro aO dO f9 q1 q2 q3 q4 q5 q6 q7 q0 h9 tk9 le9 F9 n9 N9 l9 d9 m9; (try dsimp only at le9); have e9 : @LT.lt Nat _ dO aO := d9; (try dsimp only); (try k_fold)))
  k_steps
  refine Stop.go ?_
  k_extra "call ref"
  have hmd2 : Md 32 := Md.on 32
  k_steps
  refine Stop.go ?_
  rename Int => dS
  have hst1 : -(x.length : Int) - 2 ≤ dS - (x.length : Int) - 2 := by (first | lia | omega)
  have hst2 : dS - (x.length : Int) - 2 ≤ (x.length : Int) + 2 := by (first | lia | omega)
  rename Fr _ _ _ _ => FX
  rename News _ _ _ _ => NX
  dsimp +zetaDelta only at FX NX
  generalize hst : dS - (x.length : Int) - 2 = st at *
  refine cut_val (fun v => ∃ t, v = .int (leadI st x.length) t) (by k_asm) (by k_asm) ?_ ?_
  · walk_at "eval IfExp"
    k_steps
    · exact ⟨_, _, ⟨_, by rw [leadI, if_pos (by (first | lia | omega))]⟩, rfl, by k_asm, by k_asm⟩
    · exact ⟨_, _, ⟨_, by rw [leadI, if_neg (by (first | lia | omega))]⟩, rfl, by k_asm, by k_asm⟩
  rintro _ h8 tk8 ⟨tl, rfl⟩ le8 F8 N8
  have hle1 : -(x.length : Int) - 2 ≤ leadI st x.length := by unfold leadI; split <;> (first | lia | omega)
  have hle2 : leadI st x.length ≤ 2 * (x.length : Int) + 2 := by unfold leadI; split <;> (first | lia | omega)
  have hsp := spots_len x.cps.toList y.cps.toList
  have hi0 := idx_all x y
  have hi1 := idx_far x y st
  have hr0 := ridx_all x y
  have hr1 := ridx_near x y st
  have hxl : x.cps.toList.length = x.length := L_len x
  generalize hsp' : spots x.cps.toList y.cps.toList = sp at *
  generalize hld : leadI st x.length = ld at *
  clear hst hld hsp'
  k_steps
  refine Stop.go ?_
  refine cut_led (ListR (farL ld x.length sp)) (by k_asm) (by k_asm) ?_ ?_
  · walk_at "eval IfExp"
    k_steps
    · refine Stop.go ?_
      k_dflt (refine LCt.ListComp_T (F₀ := by k_asm) (by with_unfolding_all rfl) (by decide) (by rfl) (by decide) (by rfl) ?_)
      k_steps
      refine Stop.go ?_
      refine LCt.CompSrcT.ledger (its := vs9.toArray) (by rfl) (by k_asm) (by k_asm) (by k_mem) (by rw [List.size_toArray, PySem.sizeLine_eq]; (first | lia | omega)) ?_
      intro gA
      refine restT_fix (fun i ys => Nats ys ((sp.take i).filter fun k : Nat => decide (ld ≤ (k : Int)))) .nil ?turnA ?finA
      case turnA =>
        intro i ys v I oI C oC D m₂ h tk E' hi hJ hP hC hx9 F N off ne
        refine Mine.hideG ?_; intro gP_h hG_h; obtain ⟨n, t, hn, rfl⟩ := Nats.at hC9 (i := i) (v := v) (by simpa using hP); refine hG_h ?_; (try clear hG_h)
        k_steps
        · exact LCg.CompEnd.intro (by k_asm) (by k_asm) _ (by intro p hp; exact hp) off (.inr ⟨_, by k_mem, rfl, _, rfl⟩) ⟨rfl, filt_yesN hJ hn (decide_eq_true (by assumption))⟩
        · exact LCg.CompEnd.intro (by k_asm) (by k_asm) _ (by intro p hp; exact hp) off (.inr ⟨_, by k_mem, rfl, _, rfl⟩) ⟨rfl, filt_noN hJ hn (decide_eq_false (by assumption))⟩
      case finA =>
        intro ys hys
        rw [List.take_of_length_le (by rw [List.size_toArray]; (first | lia | omega))] at hys
        intro D8 h8 tk8 F8 N8 o8
        exact ⟨_, _, _, ⟨D8, ys, _, rfl, rfl, by rw [farL, if_pos ⟨by assumption, by assumption⟩]; exact hys, off1_mem o8⟩, rfl, F8, N8⟩
    · exact ⟨_, _, _, ⟨_, [], _, rfl, rfl, by rw [far_no (by (first | lia | omega))]; exact .nil, by k_dflt exact ne_of_allLt (by assumption) (Nat.le_refl _)⟩, rfl, by k_asm, by k_asm⟩
    · exact ⟨_, _, _, ⟨_, [], _, rfl, rfl, by rw [far_no (by (first | lia | omega))]; exact .nil, by k_dflt exact ne_of_allLt (by assumption) (Nat.le_refl _)⟩, rfl, by k_asm, by k_asm⟩
  rintro _ h7 tk7 _ ⟨DF, vF, kF, rfl, rfl, hCF, hoF⟩ le7 F7 N7
  have hq3 : @Ne Nat DF b := Ne.symm (hoF (b, o9) (by k_extra "memw"))
  k_steps
  refine Stop.go ?_
  refine cut_led (ListR (nearL ld sp)) (by k_asm) (by k_asm) ?_ ?_
  · walk_at "eval IfExp"
    k_steps
    · refine Stop.go ?_
      k_dflt (refine LCt.ListComp_T (F₀ := by k_asm) (by with_unfolding_all rfl) (by decide) (by rfl) (by decide) (by rfl) ?_)
      k_steps
      refine Stop.go ?_
      refine LCt.CompSrcT.ledger (its := vs9.toArray) (by rfl) (by k_asm) (by k_asm) (by k_mem) (by rw [List.size_toArray, PySem.sizeLine_eq]; (first | lia | omega)) ?_
      intro gA
      refine restT_fix (fun i ys => Nats ys ((sp.take i).filter fun k : Nat => decide ((k : Int) ≤ ld))) .nil ?turnB ?finB
      case turnB =>
        intro i ys v I oI C oC D m₂ h tk E' hi hJ hP hC hx9 F N off ne
        refine Mine.hideG ?_; intro gP_h hG_h; obtain ⟨n, t, hn, rfl⟩ := Nats.at hC9 (i := i) (v := v) (by simpa using hP); refine hG_h ?_; (try clear hG_h)
        k_steps
        · exact LCg.CompEnd.intro (by k_asm) (by k_asm) _ (by intro p hp; exact hp) off (.inr ⟨_, by k_mem, rfl, _, rfl⟩) ⟨rfl, filt_yesN hJ hn (decide_eq_true (by assumption))⟩
        · exact LCg.CompEnd.intro (by k_asm) (by k_asm) _ (by intro p hp; exact hp) off (.inr ⟨_, by k_mem, rfl, _, rfl⟩) ⟨rfl, filt_noN hJ hn (decide_eq_false (by assumption))⟩
      case finB =>
        intro ys hys
        rw [List.take_of_length_le (by rw [List.size_toArray]; (first | lia | omega))] at hys
        intro D8 h8 tk8 F8 N8 o8
        exact ⟨_, _, _, ⟨D8, ys, _, rfl, rfl, by rw [nearL, if_pos (by assumption)]; exact hys, off1_mem o8⟩, rfl, F8, N8⟩
    · exact ⟨_, _, _, ⟨_, [], _, rfl, rfl, by rw [near_no (by (first | lia | omega))]; exact .nil, by k_dflt exact ne_of_allLt (by assumption) (Nat.le_refl _)⟩, rfl, by k_asm, by k_asm⟩
  rintro _ h6 tk6 _ ⟨DN, vN, kN, rfl, rfl, hCN, hoN⟩ le6 F6 N6
  have hq4 : @Ne Nat DN b := Ne.symm (hoN (b, o9) (by k_extra "memw"))
  generalize farL ld x.length sp = fl at *
  generalize nearL ld sp = nl at *
  k_steps
  refine Stop.go ?_
  refine cut_val (OptIs sp.head?) (by k_asm) (by k_asm) ?_ ?_
  · walk_at "eval IfExp"
    k_steps
    refine Stop.go ?_
    refine ne_nil (by k_asm) (by k_mem) (by k_mem) (by first | k_units | ktr_units | units_room) ?_
    rcases sp with _ | ⟨n0, r0⟩
    · obtain rfl := Nats.nilL hC9
      rw [List.isEmpty_nil]
      k_steps
      rename News _ _ _ _ => NC
      exact ⟨_, _, rfl, rfl, by k_asm, cb_drop NC (fun p hp => .tail _ hp)⟩
    · refine Mine.hideG ?_; intro gP_h hG_h; obtain ⟨t0, vs', rfl, hC'⟩ := Nats.consL hC9; refine hG_h ?_; (try clear hG_h)
      rw [List.isEmpty_cons]
      k_steps
      rename News _ _ _ _ => NC
      exact ⟨_, _, ⟨_, rfl⟩, rfl, by k_asm, cb_drop NC (fun p hp => .tail _ hp)⟩
  rintro v1 h1x tk1x hv1 le1x F1x N1x
  k_steps
  refine Stop.go ?_
  refine ne_opt (optV_is hi0) hv1 ?_
  k_steps
  refine Stop.go ?_
  refine cut_val (OptIs fl.head?) (by k_asm) (by k_asm) ?_ ?_
  · walk_at "eval IfExp"
    k_steps
    refine Stop.go ?_
    refine ne_nil (by k_asm) (by k_mem) (by k_mem) (by first | k_units | ktr_units | units_room) ?_
    rcases fl with _ | ⟨n0, r0⟩
    · obtain rfl := Nats.nilL hCF
      rw [List.isEmpty_nil]
      k_steps
      rename News _ _ _ _ => NC
      exact ⟨_, _, rfl, rfl, by k_asm, cb_drop NC (fun p hp => .tail _ hp)⟩
    · refine Mine.hideG ?_; intro gP_h hG_h; obtain ⟨t0, vs', rfl, hC'⟩ := Nats.consL hCF; refine hG_h ?_; (try clear hG_h)
      rw [List.isEmpty_cons]
      k_steps
      rename News _ _ _ _ => NC
      exact ⟨_, _, ⟨_, rfl⟩, rfl, by k_asm, cb_drop NC (fun p hp => .tail _ hp)⟩
  rintro v2 h2x tk2x hv2 le2x F2x N2x
  k_steps
  refine Stop.go ?_
  refine ne_opt (optV_is hi1) hv2 ?_
  k_steps
  refine Stop.go ?_
  refine cut_val (OptIs sp.getLast?) (by k_asm) (by k_asm) ?_ ?_
  · walk_at "eval IfExp"
    k_steps
    refine Stop.go ?_
    refine ne_nil (by k_asm) (by k_mem) (by k_mem) (by first | k_units | ktr_units | units_room) ?_
    rcases nil_or_last sp with rfl | ⟨r0, n0, rfl⟩
    · obtain rfl := Nats.nilL hC9
      rw [List.isEmpty_nil]
      k_steps
      rename News _ _ _ _ => NC
      exact ⟨_, _, rfl, rfl, by k_asm, cb_drop NC (fun p hp => .tail _ hp)⟩
    · refine Mine.hideG ?_; intro gP_h hG_h; obtain ⟨vs', t0, rfl⟩ := Nats.last hC9; refine hG_h ?_; (try clear hG_h)
      rw [show (vs' ++ [Value.int (n0 : Int) t0]).isEmpty = false by simp]
      k_steps
      rename News _ _ _ _ => NC
      exact ⟨_, _, by rw [List.getLast?_concat]; exact ⟨_, rfl⟩, rfl, by k_asm, cb_drop NC (fun p hp => .tail _ hp)⟩
  rintro v3 h3x tk3x hv3 le3x F3x N3x
  k_steps
  refine Stop.go ?_
  refine ne_opt (optV_is hr0) hv3 ?_
  k_steps
  refine Stop.go ?_
  refine cut_val (OptIs nl.getLast?) (by k_asm) (by k_asm) ?_ ?_
  · walk_at "eval IfExp"
    k_steps
    refine Stop.go ?_
    refine ne_nil (by k_asm) (by k_mem) (by k_mem) (by first | k_units | ktr_units | units_room) ?_
    rcases nil_or_last nl with rfl | ⟨r0, n0, rfl⟩
    · obtain rfl := Nats.nilL hCN
      rw [List.isEmpty_nil]
      k_steps
      rename News _ _ _ _ => NC
      exact ⟨_, _, rfl, rfl, by k_asm, cb_drop NC (fun p hp => .tail _ hp)⟩
    · refine Mine.hideG ?_; intro gP_h hG_h; obtain ⟨vs', t0, rfl⟩ := Nats.last hCN; refine hG_h ?_; (try clear hG_h)
      rw [show (vs' ++ [Value.int (n0 : Int) t0]).isEmpty = false by simp]
      k_steps
      rename News _ _ _ _ => NC
      exact ⟨_, _, by rw [List.getLast?_concat]; exact ⟨_, rfl⟩, rfl, by k_asm, cb_drop NC (fun p hp => .tail _ hp)⟩
  rintro v4 h4x tk4x hv4 le4x F4x N4x
  k_steps
  refine Stop.go ?_
  refine ne_opt (optV_is hr1) hv4 ?_
  k_steps
  rename Fr _ _ _ (fun _ => _) => FF
  k_dflt refine' For_invVF FF (by rfl) (by rfl) ?_
  k_steps
  refine Stop.go ?_
  rename News _ _ _ _ => N2
  obtain ⟨Y, hYe⟩ : ∃ Y, Y = _ := ⟨_, rfl⟩
  have N3 := news_tl N2 hYe
  have hT1 : ThingIn w Y aO x tx := by rw [hYe]; exact thing_in (by k_mem) (by k_mem)
  have hT2 : ThingIn w Y a9 y ty := by rw [hYe]; exact thing_in (by k_mem) (by k_mem)
  clear N2
  refine Mine.hideG ?_; intro gP_h hG_h; obtain ⟨d1, f1, t11, t12, t13, t14, t15, t16, t17, t10, k1, hY1, hY2⟩ := id hT1; refine hG_h ?_; (try clear hG_h)
  refine Mine.hideG ?_; intro gP_h hG_h; obtain ⟨d2, f2, t21, t22, t23, t24, t25, t26, t27, t20, k2, hY3, hY4⟩ := id hT2; refine hG_h ?_; (try clear hG_h)
  refine for_list (σ := Unit) (nn := 0) (fun _ => []) [Str.ofString "fresh", Str.ofString "answer"] (KeepJ _) () (by rfl) (.head _) (by k_asm) N3 (List.forall_mem_nil _) rfl ?turnC ?doneC
  case turnC =>
    rintro i v _ nx u h7 tk7 own hv hln rfl hoffo F7 N7
    refine Mine.hideG ?_; intro gP_h hG_h; obtain ⟨sp9, ts9, rfl, hs9⟩ := two_of hv; refine hG_h ?_; (try clear hG_h)
    (try dsimp only at F7 N7)
    simp only [List.cons_append] at N7
    k_steps
    refine Stop.go ?_
    rename News _ _ _ _ => N8
    have N9 := news_swap3 N8
    clear N8
    k_dflt (refine' Fn.use (insert_spec _ _ _ _ _ _ _ _ _ _ _ _ _ _ _ _ _ _ _ _ _ _ ?iT ?iA ?ix ?iy ?ii ?ij ?ine ?ioff) ?ik1 ?ik2 ?ik3 N9 ?ik5 ?ikK ?ikd ?iku ?_; (case ik1 => k_asm); (case ik2 => k_asm); (case ik3 => k_asm); (case ik5 => k_asm); (case ikK => first | exact rfl | assumption); (case ikd => k_room); (case iku => k_units))
    case iT => exact hT2.mono fun p hp => .tail _ (.tail _ (List.mem_append_left _ hp))
    case iA => exact .head _
    case ix => (first | lia | omega)
    case iy => (first | lia | omega)
    case ii => (first | lia | omega)
    case ij => (first | lia | omega)
    case ine => exact Nat.ne_of_gt e9
    case ioff => exact List.forall_mem_cons.mpr ⟨by k_ne, fun p hp => Nat.ne_of_lt ((alt l9) p hp)⟩
    clear N9
    intro r9 n9 h9 tk9 le9 F9 N9 P9
    refine Mine.hideG ?_; intro gP_h hG_h; obtain ⟨rfl, t9', rfl⟩ := P9; refine hG_h ?_; (try clear hG_h)
    rw [insT_at (by assumption) hs9 (by (first | lia | omega))] at N9
    (try dsimp only)
    (try k_fold)
    k_steps
    refine Stop.go ?_
    refine ne_same ?_
    k_steps
    refine Stop.go ?_
    refine ne_same ?_
    k_steps
    refine Stop.go ?_
    rename Fr _ _ _ _ => F0
    rename News _ _ _ _ => N0
    refine TurnP.next () _ F0 N0 ?_ ?_ hoffo (List.forall_mem_nil _) (by kst_same) ⟨.head _, rfl⟩
    · exact fun p hp => .tail _ (.tail _ (.tail _ ((List.mem_cons.mp hp).elim (fun e => e ▸ .head _) (fun h => .tail _ (List.mem_append_left _ h)))))
    · exact fun p hp => .tail _ (.tail _ (.tail _ (.tail _ (List.mem_append_right _ hp))))
  case doneC =>
    rintro _ nx u h7 tk7 rfl F7 N7
    k_steps
    · subst hYe
      rename News _ _ _ _ => NE
      refine hret _ _ _ _ (by k_asm) (cb_drop (news := (b, _) :: rest) NE ?_) ⟨_, rfl, BoxO.mono (by assumption) (by (first | lia | omega)), by simp⟩
      k_extra "subw"
    · exact absurd (by assumption : (x == x) = false) (by simp)
end
section
local macro_rules | `(tactic| walk1) => `(tactic| first | k_extra "mineS22" | k_extra "hdr9")
theorem main.tw10047389527955405517 : True := trivial
theorem main.tw10094358506670053839 : True := trivial
theorem main.tw10114013102757674387 : True := trivial
theorem main.tw10140136200207757160 : True := trivial
theorem main.tw10159738436595150677 : True := trivial
theorem main.tw10177057350305019805 : True := trivial
theorem main.tw10204856939554784155 : True := trivial
theorem main.tw10234815189450012239 : True := trivial
theorem main.tw10298723112805639129 : True := trivial
theorem main.tw10363585996791799541 : True := trivial
theorem main.tw104360540948158410 : True := trivial
theorem main.tw10450603732522932521 : True := trivial
theorem main.tw10463206416058312583 : True := trivial
theorem main.tw1054321117371714560 : True := trivial
theorem main.tw10609540516017602915 : True := trivial
theorem main.tw10625486282989778954 : True := trivial
theorem main.tw10663580350406149668 : True := trivial
theorem main.tw10665089971535097683 : True := trivial
theorem main.tw10665469846841522134 : True := trivial
theorem main.tw10707853282979444102 : True := trivial
theorem main.tw10821422270917381399 : True := trivial
theorem main.tw10825838108423173272 : True := trivial
theorem main.tw10864377008497418100 : True := trivial
theorem main.tw10877679251791092727 : True := trivial
theorem main.tw10924716458440934090 : True := trivial
theorem main.tw10981715006313426405 : True := trivial
theorem main.tw11003572833241299968 : True := trivial
theorem main.tw11086099901593105684 : True := trivial
theorem main.tw11101190512080308003 : True := trivial
theorem main.tw11120327062377616369 : True := trivial
theorem main.tw11135027115929721415 : True := trivial
theorem main.tw11146036934107921236 : True := trivial
theorem main.tw1118068078248606362 : True := trivial
theorem main.tw11221353774195762014 : True := trivial
theorem main.tw11251407683458634364 : True := trivial
theorem main.tw11261727412033496967 : True := trivial
theorem main.tw11374851513655246148 : True := trivial
theorem main.tw11403851563620829512 : True := trivial
theorem main.tw11461230924637031220 : True := trivial
theorem main.tw11476092923266045095 : True := trivial
theorem main.tw11487549891475536569 : True := trivial
theorem main.tw11544348965984651327 : True := trivial
theorem main.tw11554813239044494598 : True := trivial
theorem main.tw1156462466702112376 : True := trivial
theorem main.tw1157997071576566072 : True := trivial
theorem main.tw11595355409239048105 : True := trivial
theorem main.tw11646826074482590764 : True := trivial
theorem main.tw11692516046256081784 : True := trivial
theorem main.tw11710404883906591787 : True := trivial
theorem main.tw11741537727913789688 : True := trivial
theorem main.tw11752208632293872130 : True := trivial
theorem main.tw11785714552879321826 : True := trivial
theorem main.tw1178595665728414349 : True := trivial
theorem main.tw11815829001073249272 : True := trivial
theorem main.tw11857135199678951331 : True := trivial
theorem main.tw11962923498438245051 : True := trivial
theorem main.tw11982392923317675503 : True := trivial
theorem main.tw11987853993630220354 : True := trivial
theorem main.tw12027323910402764344 : True := trivial
theorem main.tw12057704586751987240 : True := trivial
theorem main.tw12077450504624328385 : True := trivial
theorem main.tw12093647306153771053 : True := trivial
theorem main.tw12205347405646519318 : True := trivial
theorem main.tw12252054271945606052 : True := trivial
theorem main.tw12273490649430754879 : True := trivial
theorem main.tw12298629886278197574 : True := trivial
theorem main.tw12332525795584937573 : True := trivial
theorem main.tw12343854547171428336 : True := trivial
theorem main.tw12361340156312767134 : True := trivial
theorem main.tw1236483940969888574 : True := trivial
theorem main.tw12431561837914552411 : True := trivial
theorem main.tw12455012482086183272 : True := trivial
theorem main.tw12518504611687188807 : True := trivial
theorem main.tw12564604832814323664 : True := trivial
theorem main.tw12623159325031504133 : True := trivial
theorem main.tw1264294196387467257 : True := trivial
theorem main.tw12646911602827044314 : True := trivial
theorem main.tw12670839924663504800 : True := trivial
theorem main.tw12702744160499308131 : True := trivial
theorem main.tw12732289081945773324 : True := trivial
theorem main.tw1277820614484962519 : True := trivial
theorem main.tw12839114828313443825 : True := trivial
theorem main.tw12872379398031375081 : True := trivial
theorem main.tw12885385263037960081 : True := trivial
theorem main.tw12885673836220544336 : True := trivial
theorem main.tw12915833801598196605 : True := trivial
theorem main.tw12922898485456448571 : True := trivial
theorem main.tw12927740378394474205 : True := trivial
theorem main.tw12941917028564957548 : True := trivial
theorem main.tw1306636233014830658 : True := trivial
theorem main.tw13110577991587790113 : True := trivial
theorem main.tw13113777628852026922 : True := trivial
theorem main.tw13132915859168520264 : True := trivial
theorem main.tw13142821769077397030 : True := trivial
theorem main.tw13180746182150919023 : True := trivial
theorem main.tw13219505800766818778 : True := trivial
theorem main.tw13224007501803129859 : True := trivial
theorem main.tw13270728482189477470 : True := trivial
theorem main.tw13293747886898857621 : True := trivial
theorem main.tw13350764725976880583 : True := trivial
theorem main.tw13355152605343272895 : True := trivial
theorem main.tw13406003279186336099 : True := trivial
theorem main.tw13503263706703578961 : True := trivial
theorem main.tw13547569757486424058 : True := trivial
theorem main.tw13590572293223372214 : True := trivial
theorem main.tw13591255225166038476 : True := trivial
theorem main.tw13667920496262714385 : True := trivial
theorem main.tw13693970394777133609 : True := trivial
theorem main.tw13724616953566380437 : True := trivial
theorem main.tw13777938177461255882 : True := trivial
theorem main.tw13803360072150633466 : True := trivial
theorem main.tw13838900630717943254 : True := trivial
theorem main.tw13876859957761632879 : True := trivial
theorem main.tw13962693860625380366 : True := trivial
theorem main.tw14009396871252706886 : True := trivial
theorem main.tw14027531716089632829 : True := trivial
theorem main.tw14047528560240846109 : True := trivial
theorem main.tw14060465935940456498 : True := trivial
theorem main.tw14061640607465278742 : True := trivial
theorem main.tw14064073609400967072 : True := trivial
theorem main.tw14080665800827857628 : True := trivial
theorem main.tw14097447854668400296 : True := trivial
theorem main.tw1409966394225722968 : True := trivial
theorem main.tw14106445559736802775 : True := trivial
theorem main.tw14161005256144132680 : True := trivial
theorem main.tw14218914174604095658 : True := trivial
theorem main.tw1429040668314091153 : True := trivial
theorem main.tw14313897822631088780 : True := trivial
theorem main.tw14439473939278146460 : True := trivial
theorem main.tw14457758005677747962 : True := trivial
theorem main.tw14492832472218066102 : True := trivial
theorem main.tw14510055921401542917 : True := trivial
theorem main.tw1453356044741674121 : True := trivial
theorem main.tw14539993770535171780 : True := trivial
theorem main.tw14562738103837258888 : True := trivial
theorem main.tw14625788440519214713 : True := trivial
theorem main.tw14635473669698735251 : True := trivial
theorem main.tw14639212616227390028 : True := trivial
theorem main.tw14663143327902243649 : True := trivial
theorem main.tw14672674291997333471 : True := trivial
theorem main.tw14722489848711283861 : True := trivial
theorem main.tw14759895335926876869 : True := trivial
theorem main.tw14771111431291430275 : True := trivial
theorem main.tw14788915703135433725 : True := trivial
theorem main.tw14793117695081215449 : True := trivial
theorem main.tw14907226015203709474 : True := trivial
theorem main.tw1496695287857109588 : True := trivial
theorem main.tw15017983477296125989 : True := trivial
theorem main.tw1504049600530537962 : True := trivial
theorem main.tw15060185592220127646 : True := trivial
theorem main.tw15109750227778091905 : True := trivial
theorem main.tw15131278010643852716 : True := trivial
theorem main.tw15136431859952498927 : True := trivial
theorem main.tw15270170921892066516 : True := trivial
theorem main.tw15303317825217679618 : True := trivial
theorem main.tw15342904991969174519 : True := trivial
theorem main.tw15356762974548107741 : True := trivial
theorem main.tw1545906260438175962 : True := trivial
theorem main.tw15491723280356408159 : True := trivial
theorem main.tw15595112118272840620 : True := trivial
theorem main.tw15616401959046598769 : True := trivial
theorem main.tw15624239662980076321 : True := trivial
theorem main.tw15643365686152983790 : True := trivial
theorem main.tw15649996292582860464 : True := trivial
theorem main.tw15734200111481486640 : True := trivial
theorem main.tw15737690656516749961 : True := trivial
theorem main.tw15803610866087392283 : True := trivial
theorem main.tw15806524323241146399 : True := trivial
theorem main.tw15836063038157400599 : True := trivial
theorem main.tw1587290215689348708 : True := trivial
theorem main.tw15928290008803537013 : True := trivial
theorem main.tw15984706205718930553 : True := trivial
theorem main.tw16008252555379753968 : True := trivial
theorem main.tw16008457594558532635 : True := trivial
theorem main.tw16046730324260685337 : True := trivial
theorem main.tw16049902774474827687 : True := trivial
theorem main.tw16102231251864390963 : True := trivial
theorem main.tw16135426469972691074 : True := trivial
theorem main.tw16136984950599521427 : True := trivial
theorem main.tw1615045767204293396 : True := trivial
theorem main.tw16153842264607907944 : True := trivial
theorem main.tw1615956725737779560 : True := trivial
theorem main.tw16193401482309157537 : True := trivial
theorem main.tw1630245386807275959 : True := trivial
theorem main.tw1632041292262086317 : True := trivial
theorem main.tw16320729459185622934 : True := trivial
theorem main.tw16451033083921036709 : True := trivial
theorem main.tw16452447596832230105 : True := trivial
theorem main.tw16519101796099990279 : True := trivial
theorem main.tw16572128252103988241 : True := trivial
theorem main.tw16656740534632174751 : True := trivial
theorem main.tw16689149305811164139 : True := trivial
theorem main.tw16721930046160240684 : True := trivial
theorem main.tw16778611742570070204 : True := trivial
theorem main.tw1678875084529416142 : True := trivial
theorem main.tw16819838333489098493 : True := trivial
theorem main.tw16832360635688203351 : True := trivial
theorem main.tw16922381011570985944 : True := trivial
theorem main.tw16923884221124529275 : True := trivial
theorem main.tw16950194794029067938 : True := trivial
theorem main.tw16952715711813285254 : True := trivial
theorem main.tw16965079339398995527 : True := trivial
theorem main.tw17052023290607921161 : True := trivial
theorem main.tw17057053908230417247 : True := trivial
theorem main.tw17091655785135471103 : True := trivial
theorem main.tw17118054049896295152 : True := trivial
theorem main.tw17146568849442343683 : True := trivial
theorem main.tw17201416709059790184 : True := trivial
theorem main.tw17272174723667511238 : True := trivial
theorem main.tw17297283025540448806 : True := trivial
theorem main.tw17298425922696826006 : True := trivial
theorem main.tw17336282652733537790 : True := trivial
theorem main.tw17353955331779342651 : True := trivial
theorem main.tw17402982504261768225 : True := trivial
theorem main.tw17403364634526059139 : True := trivial
theorem main.tw17450470499104002142 : True := trivial
theorem main.tw17477492558424962760 : True := trivial
theorem main.tw17510229520200029679 : True := trivial
theorem main.tw17561526911342447988 : True := trivial
theorem main.tw17644181745481072423 : True := trivial
theorem main.tw17665120845849184447 : True := trivial
theorem main.tw17679725944135375923 : True := trivial
theorem main.tw17695171507069755227 : True := trivial
theorem main.tw17708487481403421675 : True := trivial
theorem main.tw17725498274588495791 : True := trivial
theorem main.tw17737603089517620647 : True := trivial
theorem main.tw17767330081159143506 : True := trivial
theorem main.tw1777545030009416734 : True := trivial
theorem main.tw17871620999419790863 : True := trivial
theorem main.tw17877347583442615404 : True := trivial
theorem main.tw17958375852430007124 : True := trivial
theorem main.tw17972135902276802693 : True := trivial
theorem main.tw17974016328880235120 : True := trivial
theorem main.tw18031918436515192882 : True := trivial
theorem main.tw18063282731904131703 : True := trivial
theorem main.tw18134284020713443437 : True := trivial
theorem main.tw18190005008629794160 : True := trivial
theorem main.tw18218335207050127959 : True := trivial
theorem main.tw1826329307503635854 : True := trivial
theorem main.tw18284262389922463811 : True := trivial
theorem main.tw18302796317244248524 : True := trivial
theorem main.tw18315214858253571532 : True := trivial
theorem main.tw18325589031809861271 : True := trivial
theorem main.tw18403998269306519403 : True := trivial
theorem main.tw18431692314602308842 : True := trivial
theorem main.tw1850612553970854742 : True := trivial
theorem main.tw1886080085820668685 : True := trivial
theorem main.tw1900339198761634783 : True := trivial
theorem main.tw1980160206288974728 : True := trivial
theorem main.tw2007339730380871907 : True := trivial
theorem main.tw2019394398466159022 : True := trivial
theorem main.tw2110754180369666209 : True := trivial
theorem main.tw2190695567426971638 : True := trivial
theorem main.tw2195194259037543316 : True := trivial
theorem main.tw221909299271738847 : True := trivial
theorem main.tw2225956059507018244 : True := trivial
theorem main.tw2238316416991798583 : True := trivial
theorem main.tw2279707942289718827 : True := trivial
theorem main.tw2287757881348798766 : True := trivial
theorem main.tw2406621943657119228 : True := trivial
theorem main.tw2433702464844828792 : True := trivial
theorem main.tw2496676261509829067 : True := trivial
theorem main.tw2524017781993486291 : True := trivial
theorem main.tw2538046985915079169 : True := trivial
theorem main.tw2544328076492683441 : True := trivial
theorem main.tw2647654807098235363 : True := trivial
theorem main.tw2702614204127132176 : True := trivial
theorem main.tw2724176850512262202 : True := trivial
theorem main.tw2729793432009153956 : True := trivial
theorem main.tw2744014450722944760 : True := trivial
theorem main.tw2759098988195820126 : True := trivial
theorem main.tw2821470743931037460 : True := trivial
theorem main.tw2852251193174398662 : True := trivial
theorem main.tw2895952525429962455 : True := trivial
theorem main.tw2921621734765799159 : True := trivial
theorem main.tw2921958311620399285 : True := trivial
theorem main.tw3027586509356016917 : True := trivial
theorem main.tw3045742163950154196 : True := trivial
theorem main.tw3234112476842188716 : True := trivial
theorem main.tw3256006251114227469 : True := trivial
theorem main.tw330327031418712150 : True := trivial
theorem main.tw3314904115985164895 : True := trivial
theorem main.tw3343439749351644125 : True := trivial
theorem main.tw33456957511925785 : True := trivial
theorem main.tw341453280667917650 : True := trivial
theorem main.tw3466206800631347469 : True := trivial
theorem main.tw3491332818749588091 : True := trivial
theorem main.tw3532412968194664532 : True := trivial
theorem main.tw3557749057250611081 : True := trivial
theorem main.tw3562595001068472590 : True := trivial
theorem main.tw3570300971023340979 : True := trivial
theorem main.tw3572792404084808712 : True := trivial
theorem main.tw357486453476387696 : True := trivial
theorem main.tw3583811862363856187 : True := trivial
theorem main.tw3613476055612923068 : True := trivial
theorem main.tw3626430660855392483 : True := trivial
theorem main.tw3627144658338631552 : True := trivial
theorem main.tw3706830351922483016 : True := trivial
theorem main.tw3779293765908593550 : True := trivial
theorem main.tw3796207824708393856 : True := trivial
theorem main.tw3829396358689915599 : True := trivial
theorem main.tw387501639795913443 : True := trivial
theorem main.tw3905226178654972811 : True := trivial
theorem main.tw3934531018447913466 : True := trivial
theorem main.tw4026956272090484662 : True := trivial
theorem main.tw4038153913678941442 : True := trivial
theorem main.tw4039676971129161736 : True := trivial
theorem main.tw4072190877284726289 : True := trivial
theorem main.tw4108550071563198673 : True := trivial
theorem main.tw4126091431370883743 : True := trivial
theorem main.tw4156125974679941130 : True := trivial
theorem main.tw4189750870438640210 : True := trivial
theorem main.tw4261964983698606537 : True := trivial
theorem main.tw4297412468100583042 : True := trivial
theorem main.tw4333880214566435006 : True := trivial
theorem main.tw4365514962571936147 : True := trivial
theorem main.tw4452170602077327944 : True := trivial
theorem main.tw4458048076830672230 : True := trivial
theorem main.tw4500915450034043215 : True := trivial
theorem main.tw451873465583785326 : True := trivial
theorem main.tw453184122279072053 : True := trivial
theorem main.tw4573282807186111410 : True := trivial
theorem main.tw4605139254293405059 : True := trivial
theorem main.tw4637267157515435788 : True := trivial
theorem main.tw4650958065196391918 : True := trivial
theorem main.tw4651154628705390771 : True := trivial
theorem main.tw4756687523378708461 : True := trivial
theorem main.tw4775608329324902142 : True := trivial
theorem main.tw4812270449578504274 : True := trivial
theorem main.tw4839478117068044826 : True := trivial
theorem main.tw48596604365144762 : True := trivial
theorem main.tw4900431672193113347 : True := trivial
theorem main.tw4990475226369331113 : True := trivial
theorem main.tw4996873109452691289 : True := trivial
theorem main.tw5061512775090418087 : True := trivial
theorem main.tw5084117380071580128 : True := trivial
theorem main.tw5102693214775723256 : True := trivial
theorem main.tw5127751686995613262 : True := trivial
theorem main.tw5160751907100791332 : True := trivial
theorem main.tw5203219222101121401 : True := trivial
theorem main.tw52199770228462824 : True := trivial
theorem main.tw5240536507193477226 : True := trivial
theorem main.tw5240779543111244032 : True := trivial
theorem main.tw5243159528196176124 : True := trivial
theorem main.tw5378808338967829844 : True := trivial
theorem main.tw5400957986263281647 : True := trivial
theorem main.tw5401703158475992631 : True := trivial
theorem main.tw5418533224930618480 : True := trivial
theorem main.tw5450094653865882931 : True := trivial
theorem main.tw5473700226181020891 : True := trivial
theorem main.tw5518243967957118194 : True := trivial
theorem main.tw5532463470591059822 : True := trivial
theorem main.tw5571399437266216444 : True := trivial
theorem main.tw5585478044538960755 : True := trivial
theorem main.tw5613160597433933154 : True := trivial
theorem main.tw5649967823195072380 : True := trivial
theorem main.tw5665406974723832613 : True := trivial
theorem main.tw5665735395497279834 : True := trivial
theorem main.tw5781596087445459943 : True := trivial
theorem main.tw5797031442667253490 : True := trivial
theorem main.tw587027183488705336 : True := trivial
theorem main.tw5871769198996169552 : True := trivial
theorem main.tw5901322066177533662 : True := trivial
theorem main.tw5995161000843957690 : True := trivial
theorem main.tw6044114016751833949 : True := trivial
theorem main.tw6053611964639427726 : True := trivial
theorem main.tw6075091234017535682 : True := trivial
theorem main.tw6161133996638707016 : True := trivial
theorem main.tw6162249291895867263 : True := trivial
theorem main.tw6183352029847204284 : True := trivial
theorem main.tw6222487380544312443 : True := trivial
theorem main.tw6334894449686545209 : True := trivial
theorem main.tw6361450105264607166 : True := trivial
theorem main.tw6385024630547198690 : True := trivial
theorem main.tw6418098437765475518 : True := trivial
theorem main.tw6449824600675878752 : True := trivial
theorem main.tw645136716886899192 : True := trivial
theorem main.tw6511744376749373798 : True := trivial
theorem main.tw6557543464795787104 : True := trivial
theorem main.tw65644731488775911 : True := trivial
theorem main.tw6596593509180878263 : True := trivial
theorem main.tw66260789543402106 : True := trivial
theorem main.tw6635558491612396129 : True := trivial
theorem main.tw6655696309031964122 : True := trivial
theorem main.tw6660377722381337597 : True := trivial
theorem main.tw6674386428176565332 : True := trivial
theorem main.tw6697339332421208802 : True := trivial
theorem main.tw6741292078354696603 : True := trivial
theorem main.tw6785657489111691699 : True := trivial
theorem main.tw6801380410627298636 : True := trivial
theorem main.tw6855474311058116810 : True := trivial
theorem main.tw6862492499505807319 : True := trivial
theorem main.tw6877560268529008848 : True := trivial
theorem main.tw6909042917933305093 : True := trivial
theorem main.tw6910295442248876197 : True := trivial
theorem main.tw6912675738884088206 : True := trivial
theorem main.tw6981815665589151136 : True := trivial
theorem main.tw7074144079889050967 : True := trivial
theorem main.tw7083192437325867461 : True := trivial
theorem main.tw7093617532817203218 : True := trivial
theorem main.tw7097326431059999717 : True := trivial
theorem main.tw7113585516715319716 : True := trivial
theorem main.tw7153082081811710619 : True := trivial
theorem main.tw716429049611869786 : True := trivial
theorem main.tw7186131708394509389 : True := trivial
theorem main.tw7214478077546791972 : True := trivial
theorem main.tw7221758910455160077 : True := trivial
theorem main.tw7235775444256392728 : True := trivial
theorem main.tw7237411587787531456 : True := trivial
theorem main.tw7298748307773712898 : True := trivial
theorem main.tw7308723440029596264 : True := trivial
theorem main.tw7332330508316399935 : True := trivial
theorem main.tw7332552209862256014 : True := trivial
theorem main.tw73751810991705359 : True := trivial
theorem main.tw7380652910202371479 : True := trivial
theorem main.tw7411558596216406370 : True := trivial
theorem main.tw7439787175107056256 : True := trivial
theorem main.tw750237026923860459 : True := trivial
theorem main.tw7514964652732493775 : True := trivial
theorem main.tw7528692076093279249 : True := trivial
theorem main.tw7590696779544312186 : True := trivial
theorem main.tw7647378279178456250 : True := trivial
theorem main.tw7691172733374981047 : True := trivial
theorem main.tw7698036289167662538 : True := trivial
theorem main.tw7751025194823839400 : True := trivial
theorem main.tw7846812961960373227 : True := trivial
theorem main.tw7875838824674609581 : True := trivial
theorem main.tw7904437144335635152 : True := trivial
theorem main.tw7974275031393228247 : True := trivial
theorem main.tw8079908401900000222 : True := trivial
theorem main.tw8096190563154859447 : True := trivial
theorem main.tw8207831470162742035 : True := trivial
theorem main.tw8211959896082780389 : True := trivial
theorem main.tw8260724100714396741 : True := trivial
theorem main.tw832900586485598795 : True := trivial
theorem main.tw8440099810896429113 : True := trivial
theorem main.tw8467378866343419333 : True := trivial
theorem main.tw8475525182357872103 : True := trivial
theorem main.tw8488872178611200430 : True := trivial
theorem main.tw8627561154394265716 : True := trivial
theorem main.tw8652556701797213591 : True := trivial
theorem main.tw8663697691656813868 : True := trivial
theorem main.tw8729708805864041840 : True := trivial
theorem main.tw8834365191522931223 : True := trivial
theorem main.tw8905464785575363620 : True := trivial
theorem main.tw8930851030842425676 : True := trivial
theorem main.tw8947760058931562597 : True := trivial
theorem main.tw9067361615346285147 : True := trivial
theorem main.tw9155575984036265788 : True := trivial
theorem main.tw917386388269078853 : True := trivial
theorem main.tw9265829497004654079 : True := trivial
theorem main.tw9272984997812220495 : True := trivial
theorem main.tw9274054859765456524 : True := trivial
theorem main.tw9360745474812902239 : True := trivial
theorem main.tw9361300454564663673 : True := trivial
theorem main.tw9369988214560726041 : True := trivial
theorem main.tw9376575566392132001 : True := trivial
theorem main.tw9381277316556691805 : True := trivial
theorem main.tw9406782406253462049 : True := trivial
theorem main.tw9417822746687237092 : True := trivial
theorem main.tw9483120023164983764 : True := trivial
theorem main.tw9488428017035680116 : True := trivial
theorem main.tw9498315638749924794 : True := trivial
theorem main.tw9508770018378322450 : True := trivial
theorem main.tw9512817274939609580 : True := trivial
theorem main.tw9557352009045844224 : True := trivial
theorem main.tw9561784451562097942 : True := trivial
theorem main.tw9563168847844234846 : True := trivial
theorem main.tw9603038260234531403 : True := trivial
theorem main.tw961187720498965250 : True := trivial
theorem main.tw962032349192862916 : True := trivial
theorem main.tw9656510801202774680 : True := trivial
theorem main.tw9658885295015712986 : True := trivial
theorem main.tw9681375758050803366 : True := trivial
theorem main.tw9682133043923132273 : True := trivial
theorem main.tw9730157408454304684 : True := trivial
theorem main.tw9756827057097773860 : True := trivial
theorem main.tw979501456738626862 : True := trivial
theorem main.tw9840939614602229412 : True := trivial
theorem main.tw9848185148710128376 : True := trivial
theorem main.tw9897820754763898449 : True := trivial
theorem main.tw9994787619460420439 : True := trivial
set_option Elab.async true
set_option maxRecDepth 100000
set_option maxHeartbeats 0
theorem main : PySem.Challenge.rw_nz0043_01.Holds := by
  (w_on; o_law; o_head (kHook Mine.hd.heap_1 (2 :: 3 :: 15 :: 17 :: 18 :: 20 :: 21 :: 22 :: 23 :: 31 :: 33 :: 34 :: 36 :: 37 :: 38 :: 39 :: 40 :: 41 :: 42 :: 45 :: 52 :: 53 :: 55 :: 56 :: 58 :: 59 :: 60 :: 61 :: 62 :: 65 :: 72 :: 73 :: 75 :: 76 :: 78 :: 79 :: 80 :: 81 :: 82 :: 85 :: 92 :: 94 :: 95 :: 97 :: 98 :: 99 :: 101 :: 102 :: 104 :: 105 :: 106 :: 108 :: 109 :: 111 :: 112 :: 113 :: 116 :: 117 :: 118 :: 119 :: 120 :: 123 :: 130 :: 131 :: 133 :: 134 :: 136 :: 137 :: 138 :: 139 :: 140 :: 143 :: 150 :: 151 :: 152 :: 154 :: 155 :: 157 :: 158 :: 159 :: 160 :: 161 :: 164 :: 171 :: 172 :: 174 :: 175 :: 177 :: 178 :: 179 :: 180 :: 181 :: 184 :: 191 :: 192 :: 194 :: 195 :: 197 :: 198 :: 199 :: 201 :: 202 :: 204 :: 205 :: 206 :: 207 :: 208 :: 211 :: 213 :: 214 :: 216 :: 217 :: 218 :: 220 :: 221 :: 223 :: 224 :: 225 :: 226 :: 229 :: 230 :: 231 :: 233 :: 234 :: 236 :: 237 :: 238 :: 240 :: 241 :: 243 :: 244 :: 245 :: 247 :: 248 :: 250 :: 251 :: 252 :: 254 :: 255 :: 257 :: 258 :: 259 :: 261 :: 262 :: 264 :: 265 :: 266 :: 269 :: 270 :: 271 :: 273 :: 274 :: 276 :: 277 :: 278 :: 280 :: 281 :: 283 :: 284 :: 285 :: 287 :: 288 :: 290 :: 291 :: 292 :: 295 :: 296 :: 297 :: 299 :: 300 :: 302 :: 303 :: 304 :: 305 :: 307 :: 308 :: 310 :: 311 :: 312 :: 314 :: 315 :: 317 :: 318 :: 319 :: 321 :: 322 :: 324 :: 325 :: 326 :: 328 :: 329 :: 331 :: 332 :: 333 :: 335 :: 336 :: 338 :: 339 :: 340 :: 342 :: 343 :: 345 :: 346 :: 347 :: 349 :: 350 :: 352 :: 353 :: 354 :: 356 :: 357 :: 359 :: 360 :: 361 :: 363 :: 364 :: 366 :: 367 :: 368 :: 371 :: 372 :: 373 :: 376 :: 377 :: 378 :: 380 :: 381 :: 383 :: 384 :: 385 :: 388 :: 389 :: 390 :: 392 :: 393 :: 395 :: 396 :: 397 :: 400 :: 401 :: 402 :: 405 :: 406 :: 407 :: 409 :: 410 :: 412 :: 413 :: 414 :: 416 :: 417 :: 419 :: 420 :: 421 :: 423 :: 424 :: 426 :: 427 :: 428 :: 430 :: 431 :: 433 :: 434 :: 435 :: 437 :: 438 :: 440 :: 441 :: 442 :: 445 :: 446 :: 447 :: 450 :: 451 :: 452 :: 454 :: 455 :: 457 :: 458 :: 459 :: 462 :: 463 :: 464 :: 467 :: 468 :: 469 :: 471 :: 472 :: 474 :: 475 :: 476 :: 479 :: 480 :: 481 :: 484 :: 485 :: 486 :: 489 :: 490 :: 491 :: 494 :: 495 :: 496 :: 499 :: 500 :: 501 :: 503 :: 504 :: 506 :: 507 :: []) (fun _ => by kernel_rfl)); (case hw => w_witness2))
  w_top off
  k_with_none
  k_with "memw" => first | with_reducible exact List.mem_cons_self | (with_reducible refine List.mem_cons_of_mem _ ?_; k_extra "memw") | with_reducible assumption | (with_reducible refine List.mem_append_left _ ?_; k_extra "memw") | (with_reducible refine List.mem_append_right _ ?_; k_extra "memw")
  k_with "sufw" => first | with_reducible exact Mine.sb_refl | with_reducible assumption | (with_reducible refine Mine.sb_tail ?_; k_extra "sufw") | (with_reducible refine Mine.sb_left ?_; k_extra "sufw") | (with_reducible refine Mine.sb_right ?_; k_extra "sufw")
  k_with "subw" => first | k_extra "sufw" | with_reducible exact Mine.sb_nil | (with_reducible refine Mine.sb_cons ?_ ?_; (k_extra "memw"); (k_extra "subw")) | (with_reducible refine Mine.sb_app ?_ ?_; (k_extra "subw"); (k_extra "subw"))
  k_with "inn" => first | with_reducible exact Mine.InN.here | (with_reducible refine Mine.InN.there ?_; k_extra "inn")
  k_with "alln" => first | with_reducible exact Mine.AllN.nil | (with_reducible refine Mine.AllN.co ?_; k_extra "alln") | (with_reducible refine Mine.AllN.nm ?_ ?_; (k_extra "inn"); (k_extra "alln"))
  k_with "evk" => first | ((with_reducible show Mine.Evs _ _ _ _ _ _); first | ((with_reducible apply Mine.Evs.at4 (by with_reducible assumption)); (k_extra "alln"); exact And.intro rfl rfl) | (with_reducible apply Mine.Evs.cons <;> k_extra "evk")) | ((with_reducible show Mine.Ev _ _ (PySem.Expr.Name _ _) _ _ _); (with_reducible apply Mine.Ev.at4 (by with_reducible assumption)); (k_extra "alln"); exact And.intro rfl rfl) | ((with_reducible show Mine.Ev _ _ (PySem.Expr.Constant _ _ _) _ _ _); exact Mine.Ev.atK (And.intro rfl rfl)) | (with_reducible apply Mine.Ev.add <;> k_extra "evk") | (with_reducible apply Mine.Ev.sub <;> k_extra "evk") | (with_reducible apply Mine.Ev.mul <;> first | k_extra "evk" | (try dsimp only; mul_fits)) | (with_reducible apply Mine.Ev.len; exact rfl; k_extra "evk"; first | with_reducible assumption | exact Nat.le_trans (by with_reducible assumption) (by decide) | omega) | exact Mine.EvO.no | (with_reducible apply Mine.EvO.so; k_extra "evk")
  k_with "k_size9" => (simp only [Array.size_push, List.size_toArray, List.length_cons, List.length_nil, List.length_append, List.nil_append, Array.size_empty, List.push_toArray]; first | decide | (first | lia | omega))
  k_with "top_raise09" => ((repeat (first | exact Mine.NeC.here | exact Mine.NeC.last | refine Mine.NeC.there ?_)); done)
  k_with "k_ne9" => ((try dsimp only); first | with_reducible assumption | exact Nat.succ_ne_self _ | exact (Nat.succ_ne_self _).symm | exact Nat.ne_of_lt (by with_reducible assumption) | exact Nat.ne_of_gt (by with_reducible assumption) | exact Mine.al0 (by with_reducible assumption) (by k_extra "memw") | exact Mine.au0 (by with_reducible assumption) (by k_extra "memw") | exact Mine.al1 (by with_reducible assumption) (by k_extra "memw") | exact Mine.al2 (by with_reducible assumption) (by k_extra "memw") | exact Mine.al3 (by with_reducible assumption) (by k_extra "memw") | exact Mine.al4 (by with_reducible assumption) (by k_extra "memw") | exact Mine.al5 (by with_reducible assumption) (by k_extra "memw") | exact Mine.au1 (by with_reducible assumption) (by k_extra "memw") | exact Mine.au2 (by with_reducible assumption) (by k_extra "memw") | exact Mine.au3 (by with_reducible assumption) (by k_extra "memw") | exact Mine.au4 (by with_reducible assumption) (by k_extra "memw") | exact Mine.au5 (by with_reducible assumption) (by k_extra "memw") | exact Mine.of0 (by with_reducible assumption) (by k_extra "memw") | exact Mine.of1 (by with_reducible assumption) (by k_extra "memw") | exact Mine.o1a (by with_reducible assumption) (by k_extra "memw") | exact Mine.o1b (by with_reducible assumption) (by k_extra "memw") | exact Mine.o3I (by with_reducible assumption) (by k_extra "memw") | exact Mine.o3C (by with_reducible assumption) (by k_extra "memw") | exact Mine.o3D (by with_reducible assumption) (by k_extra "memw") | exact Mine.o3i (by with_reducible assumption) (by k_extra "memw") | exact Mine.o3c (by with_reducible assumption) (by k_extra "memw") | exact Mine.o3d (by with_reducible assumption) (by k_extra "memw") | exact Mine.n3a (by with_reducible assumption) | exact Mine.n3b (by with_reducible assumption) | exact Mine.n3c (by with_reducible assumption) | exact Mine.n3d (by with_reducible assumption) | exact Mine.n3e (by with_reducible assumption) | exact Mine.n3f (by with_reducible assumption) | ((first | lia | omega)))
  k_with "k_room9" => first | exact Mine.rm0 (by with_reducible assumption) | exact Mine.rm1 (by with_reducible assumption) (by decide) | exact Mine.rm2 (by with_reducible assumption) (by decide) | decide | ktr_room
  k_with "k_units9" => first | exact Mine.rm0 (by with_reducible assumption) | exact Mine.rm1 (by with_reducible assumption) (by decide) | exact Mine.rm2 (by with_reducible assumption) (by decide) | decide | ktr_units
  k_with "k_all9" => first | with_reducible assumption | exact Mine.as0 (by with_reducible assumption) (by k_extra "subw") | exact Mine.as1 (by with_reducible assumption) (by k_extra "subw") | exact Mine.as2 (by with_reducible assumption) (by k_extra "subw") | exact Mine.as3 (by with_reducible assumption) (by k_extra "subw") | exact Mine.as4 (by with_reducible assumption) (by k_extra "subw") | exact Mine.as5 (by with_reducible assumption) (by k_extra "subw") | (with_reducible refine Mine.off_app ?_ ?_ <;> k_all) | exact Mine.ne_fresh2 (by assumption) (by k_extra "memw") | assumption | exact Mine.ne_of_allLt (by assumption) (by first | exact Nat.le_refl _ | exact Nat.le_succ _ | (first | lia | omega)) | exact Mine.ne_of_lt (by assumption) (by first | exact Nat.le_refl _ | exact Nat.le_succ _ | exact Nat.le_add_right _ 2 | exact Nat.le_add_right _ 3 | (first | lia | omega))
  k_with "k_updF9" => ((with_reducible refine' Mine.updF_app ?c8a ?c8b); (case c8b => k_all); (case c8a => k_updF))
  k_with "k_upd9" => ((with_reducible refine' Mine.upd_app ?c8a ?c8b); (case c8b => k_all); (case c8a => k_upd))
  k_with "k_mem9" => first | k_extra "memw" | exact List.mem_cons_self | ktr_member
  k_with "ksw_same9" => (intro z h2 h3; (repeat' (with_reducible refine Mine.if_skip ?_ ?_)); (all_goals (first | exact Mine.kst_keep' h2 h3 rfl | (have h4 := h2 _ (.head _); exact h4) | (have h4 := h2 _ (.tail _ (.head _)); exact h4) | (have h4 := h2 _ (.tail _ (.tail _ (.head _))); exact h4) | exact Mine.ne_stored h3 (by simp))))
  k_with "kst_same9" => (intro z h1 h2 h3; (repeat' (with_reducible refine Mine.if_skip ?_ ?_)); (all_goals (first | exact h1 | exact Mine.kst_keep' h2 h3 rfl | (have h4 := h2 _ (.head _); exact h4) | (have h4 := h2 _ (.tail _ (.head _)); exact h4) | (have h4 := h2 _ (.tail _ (.tail _ (.head _))); exact h4) | exact Mine.ne_stored h3 (by simp))))
  k_with "hdr9 eval" => with_reducible refine Mine.stop_comp ?_
  k_with "hdr9 eval" => ((with_reducible show PySem.wpAny _ _ (PySem.eval (PySem.Expr.BinOp _ _ _ _) _) _ _ _); (first | (k_dflt refine' Mine.ev_val ?c8o ?c8F ?c8X ?c8T ?c8l ?c8k ?c8v ?_; (case c8o => rfl); (case c8F => k_asm); (case c8X => k_asm); (case c8T => k_asm); (case c8l => first | with_reducible assumption | k_is); (case c8k => first | exact rfl | assumption); (case c8v => k_extra "evk"); k_whole) | (k_dflt refine' Mine.binop_ev ?c8o ?c8F ?c8X ?c8T ?c8l ?c8k ?c8v ?c8u ?_; (case c8o => rfl); (case c8F => k_asm); (case c8X => k_asm); (case c8T => k_asm); (case c8l => first | with_reducible assumption | k_is); (case c8k => first | exact rfl | assumption); (case c8v => k_extra "evk"); (case c8u => k_extra "evk"); k_whole)))
  k_with "hdr9 eval" => ((with_reducible show PySem.wpAny _ _ (PySem.eval (PySem.Expr.Call (PySem.Expr.Name _ _) (_ :: _) [] _) _) _ _ _); (first | (k_dflt refine' Mine.call_ev ?c8o ?c8F ?c8X ?c8T ?c8e ?c8l ?c8g ?c8k ?c8f ?c8d ?c8v ?c8p ?_; (case c8o => rfl); (case c8F => k_asm); (case c8X => k_asm); (case c8T => k_asm); (case c8l => first | with_reducible assumption | k_is); (case c8k => first | exact rfl | assumption); (case c8v => k_extra "evk"); (case c8f => exact rfl); (case c8d => decide); (case c8e => k_is); (case c8g => k_is); (case c8p => exact rfl); k_whole) | (k_dflt refine' Mine.callb_ev ?c8o ?c8F ?c8X ?c8T ?c8e ?c8b ?c8n ?c8l ?c8k ?c8f ?c8d ?c8v ?c8p ?_; (case c8o => rfl); (case c8F => k_asm); (case c8X => k_asm); (case c8T => k_asm); (case c8l => first | with_reducible assumption | k_is); (case c8k => first | exact rfl | assumption); (case c8v => k_extra "evk"); (case c8f => exact rfl); (case c8d => decide); (case c8e => k_is); (case c8b => boot_fast); (case c8n => decide); (case c8p => exact rfl); k_whole)))
  k_with "hdr9 eval" => ((with_reducible show PySem.wpAny _ _ (PySem.eval (PySem.Expr.Compare _ [_] [_] _) _) _ _ _); (k_dflt refine' Mine.cmp_ev ?c8o ?c8F ?c8X ?c8T ?c8l ?c8k ?c8v ?c8u ?c8b ?_; (case c8o => rfl); (case c8F => k_asm); (case c8X => k_asm); (case c8T => k_asm); (case c8l => first | with_reducible assumption | k_is); (case c8k => first | exact rfl | assumption); (case c8v => k_extra "evk"); (case c8u => k_extra "evk"); (case c8b => with_unfolding_all rfl); k_whole))
  k_with "hdr9 eval" => ((with_reducible show PySem.wpAny _ _ (PySem.eval (PySem.Expr.Slice _ _ none _) _) _ _ _); (fail_if_success (have := (by with_reducible assumption : Mine.Md 9))); (fail_if_success (have := (by with_reducible assumption : Mine.Md 22))); (k_dflt refine' Mine.slice_ev ?c8o ?c8F ?c8X ?c8T ?c8l ?c8k ?c8v ?c8u ?_; (case c8o => rfl); (case c8F => k_asm); (case c8X => k_asm); (case c8T => k_asm); (case c8l => first | with_reducible assumption | k_is); (case c8k => first | exact rfl | assumption); (case c8v => k_extra "evk"); (case c8u => k_extra "evk"); k_whole))
  k_with "hdr9 eval" => ((with_reducible show PySem.wpAny _ _ (PySem.eval (PySem.Expr.Subscript _ _ _) _) _ _ _); (k_dflt refine' Mine.sub_ev ?c8o ?c8F ?c8X ?c8T ?c8l ?c8k ?c8v ?c8u ?_; (case c8o => rfl); (case c8F => k_asm); (case c8X => k_asm); (case c8T => k_asm); (case c8l => first | with_reducible assumption | k_is); (case c8k => first | exact rfl | assumption); (case c8v => k_extra "evk"); (case c8u => k_extra "evk"); k_whole))
  k_with "hdr9 call" => ((with_reducible show PySem.wpAny _ _ (PySem.call (PySem.Value.builtin "len") [PySem.Value.str _ _]) _ _ _); (with_reducible refine Mine.len_s ?c8b ?_); (case c8b => first | with_reducible assumption | exact Nat.le_trans (by with_reducible assumption) (by decide)))
  k_with "hdr9 call" => ((with_reducible show PySem.wpAny _ _ (PySem.call (PySem.Value.ref _) _ _) _ _ _); k_dflt ((refine PySem.wpAny_call ?_); k_enter))
  k_with "hdr9 call" => ((with_reducible show PySem.wpAny _ _ (PySem.call (PySem.Value.ref _) _ _) _ _ _); k_extra "call ref")
  k_with "hdr9 call" => ((with_reducible show PySem.wpAny _ _ (PySem.call (PySem.Value.builtin "list.append") [PySem.Value.ref _, _] _) _ _ _); (k_dflt refine' Mine.append_led ?c8kf ?c8kn ?c8ku ?c8kz ?_; (case c8kf => k_asm); (case c8kn => k_asm); (case c8ku => k_upd); (case c8kz => (rw [PySem.sizeLine_eq]; first | decide | exact Nat.le_trans (by with_reducible assumption) (by decide) | exact Nat.le_trans (Nat.succ_le_succ (by with_reducible assumption)) (by decide) | (first | lia | omega))); k_whole); intro h_h F_h n_h N_h; (try dsimp only); (try k_fold))
  k_with "hdr9 call" => ((with_reducible show PySem.wpAny _ _ (PySem.call (PySem.Value.builtin "list.extend") [PySem.Value.ref _, PySem.Value.ref _] _) _ _ _); (k_dflt refine' Mine.extend_2 ?c8kf ?c8kn ?c8ku ?c8kv ?c8kz ?_; (case c8kf => k_asm); (case c8kn => k_asm); (case c8ku => k_ne); (case c8kv => k_all); (case c8kz => (rw [PySem.sizeLine_eq]; first | decide | exact Nat.le_trans (by with_reducible assumption) (by decide) | exact Nat.le_trans (Nat.succ_le_succ (by with_reducible assumption)) (by decide) | (first | lia | omega))); k_whole); intro h_h n_h F_h N_h; (try dsimp only); (try k_fold))
  k_with "hdr9 call" => ((with_reducible show PySem.wpAny _ _ (PySem.call (PySem.Value.builtin "len") [PySem.Value.ref _]) _ _ _); (k_dflt refine' PyProof.Rows.len_list ?c8kl ?c8kf ?_; (case c8kl => exact PyProof.Rows.News.isList (by k_asm) (by k_mem)); (case c8kf => (simp only [List.size_toArray]; (first | lia | omega))); k_whole); (try simp only [List.size_toArray]))
  k_with "hdr9 call" => ((with_reducible show PySem.wpAny _ _ (PySem.call (PySem.Value.builtin "str.join") [PySem.Value.str _ _, PySem.Value.ref _]) _ _ _); (k_dflt refine' Mine.call_join_chs ?c8kn ?c8km ?c8kc ?c8kb ?_; (case c8kn => k_asm); (case c8km => k_mem); (case c8kc => with_reducible assumption); (case c8kb => first | with_reducible assumption | (first | lia | omega)); k_whole); intro t_h k_h; (try dsimp only); (try k_fold))
  k_with "hdr9 call" => with_reducible refine Mine.stop_enum ?_
  k_with "hdr9 call" => ((with_reducible show PySem.wpAny _ _ (PySem.call (PySem.Value.builtin "sorted") [PySem.Value.ref _]) _ _ _); (k_dflt refine' Mine.sorted_two ?c8hF ?c8hN ?c8h1 ?_; (case c8hF => k_asm); (case c8hN => k_asm); (case c8h1 => k_mem)); intro d_h h_h lo_h hi_h t_h u_h e_h F_h n_h N_h l_h hlo_h hab_h; (try dsimp only); (try k_fold))
  k_with "hdr9 call" => ((with_reducible show PySem.wpAny _ _ (PySem.call (PySem.Value.builtin "str.join") [PySem.Value.str _ _, PySem.Value.ref _]) _ _ _); (k_dflt refine' Mine.call_join_tok ?c8kn ?c8km ?c8kc ?c8kb ?c8k0 ?c8ky ?_; (case c8kn => k_asm); (case c8km => k_mem); (case c8kc => with_reducible assumption); (case c8kb => first | with_reducible assumption | (first | lia | omega)); (case c8k0 => with_reducible assumption); (case c8ky => with_reducible assumption); k_whole); intro t_h k_h le_h p_h lt_h; (try dsimp only at le_h); (try dsimp only); (try k_fold))
  k_with "hdr9 exec" => with_reducible refine Mine.stop_for ?_
  k_with "hdr9 exec" => with_reducible refine Mine.stop_while ?_
  k_with "hdr9 exec" => with_reducible refine Mine.stop_asg ?_
  k_with "hdr9 exec" => ((with_reducible show PySem.wpAny _ _ (PySem.exec (PySem.Stmt.Assign [PySem.Expr.Name _ _] _ _) _) _ _ _); (k_dflt refine' Mine.asg_ev ?c8o ?c8F ?c8N ?c8X ?c8T ?c8l ?c8k ?c8v ?c8x ?c8s ?_; (case c8N => k_asm); (case c8F => k_asm); (case c8X => k_asm); (case c8T => k_asm); (case c8l => first | with_reducible assumption | k_is); (case c8k => first | exact rfl | assumption); (case c8v => k_extra "evk"); (case c8x => exact rfl); (case c8s => exact rfl); k_whole); intro h_h m_h F_h N_h; (try k_sweep))
  k_with "hdr9 exec" => ((with_reducible show PySem.wpAny _ _ (PySem.exec (PySem.Stmt.Return (some _) _) _) _ _ _); (k_dflt refine' Mine.ret_ev ?c8o ?c8F ?c8X ?c8T ?c8l ?c8k ?c8v ?_; (case c8o => rfl); (case c8F => k_asm); (case c8X => k_asm); (case c8T => k_asm); (case c8l => first | with_reducible assumption | k_is); (case c8k => first | exact rfl | assumption); (case c8v => k_extra "evk"); k_whole))
  k_with "hdr9 subscriptTail" => ((with_reducible show PySem.wpAny _ _ (PyProof.Rows.subscriptTail _ _ (PySem.Value.str _ _) (PySem.Value.int _ _)) _ _ _); (k_dflt refine' Mine.item_s ?c8x ?c8y ?c8b ?c8s ?c8t ?_; (case c8x => first | with_reducible assumption | exact Int.natCast_nonneg _ | exact Mine.nn1 | exact Mine.nn2); (case c8y => with_reducible assumption); (case c8b => first | with_reducible assumption | exact Nat.le_trans (by with_reducible assumption) (by decide)); (case c8s => with_unfolding_all rfl); (case c8t => (intro _; with_unfolding_all rfl)); k_whole); intro _)
  k_with "hdr9 subscriptTail" => ((with_reducible show PySem.wpAny _ _ (PyProof.Rows.subscriptTail _ _ (PySem.Value.ref _) (PySem.Value.int 0 _)) _ _ _); (k_dflt refine' Mine.item_0 ?c8ki ?c8kj ?_; (case c8ki => k_asm); (case c8kj => k_mem); k_whole))
  k_with "hdr9 subscriptTail" => ((with_reducible show PySem.wpAny _ _ (PyProof.Rows.subscriptTail _ _ (PySem.Value.ref _) (PySem.Value.int 1 _)) _ _ _); (k_dflt refine' Mine.item_1 ?c8ki ?c8kj ?_; (case c8ki => k_asm); (case c8kj => k_mem); k_whole))
  k_with "hdr9 subscriptTail" => ((with_reducible show PySem.wpAny _ _ (PyProof.Rows.subscriptTail _ _ (PySem.Value.ref _) (PySem.Value.int 2 _)) _ _ _); (k_dflt refine' Mine.item_2 ?c8ki ?c8kj ?_; (case c8ki => k_asm); (case c8kj => k_mem); k_whole))
  k_with "hdr9 subscriptTail" => ((with_reducible show PySem.wpAny _ _ (PyProof.Rows.subscriptTail _ _ (PySem.Value.ref _) (PySem.Value.int 3 _)) _ _ _); (k_dflt refine' Mine.item_3 ?c8ki ?c8kj ?_; (case c8ki => k_asm); (case c8kj => k_mem); k_whole))
  k_with "hdr9 subscriptTail" => ((with_reducible show PySem.wpAny _ _ (PyProof.Rows.subscriptTail _ _ (PySem.Value.ref _) (PySem.Value.int (-1) _)) _ _ _); (k_dflt refine' Mine.item_last ?c8ki ?c8kj ?_; (case c8ki => k_asm); (case c8kj => k_mem); k_whole))
  k_with "hdr9 subscriptTail" => ((with_reducible show PySem.wpAny _ _ (PyProof.Rows.subscriptTail _ (PySem.Expr.Call _ _ _ _) (PySem.Value.str _ _) (PySem.Value.int _ _)) _ _ _); (k_dflt refine' Mine.item_pick ?c8h0 ?c8h1 ?c8hx ?_; (case c8h0 => (first | lia | omega)); (case c8h1 => (first | lia | omega)); (case c8hx => (first | lia | omega))); intro c_h hc_h; (try dsimp only); (try k_fold))
  k_with "hdr9 isTrue" => ((with_reducible show PySem.wpAny _ _ (PySem.isTrue (PySem.Expr.Compare _ [_] [_] _) _ _) _ _ _); (k_dflt refine' Mine.isTc_ev ?c8o ?c8F ?c8X ?c8T ?c8l ?c8k ?c8v ?c8u ?c8b ?_; (case c8o => rfl); (case c8F => k_asm); (case c8X => k_asm); (case c8T => k_asm); (case c8l => first | with_reducible assumption | k_is); (case c8k => first | exact rfl | assumption); (case c8v => k_extra "evk"); (case c8u => k_extra "evk"); (case c8b => with_unfolding_all rfl); k_whole))
  k_with "hdr9 isTrue" => ((with_reducible show PySem.wpAny _ _ (PySem.isTrue (PySem.Expr.Compare _ [PySem.CmpOp.Lt] [_] _) _ _) _ _ _); (k_dflt refine' Mine.isT_lt ?c8o ?c8F ?c8X ?c8T ?c8l ?c8k ?c8v ?c8u ?c8b ?_ ?_; (case c8o => rfl); (case c8F => k_asm); (case c8X => k_asm); (case c8T => k_asm); (case c8l => first | with_reducible assumption | k_is); (case c8k => first | exact rfl | assumption); (case c8v => k_extra "evk"); (case c8u => k_extra "evk"); (case c8b => with_unfolding_all rfl)); all_goals (intro a_h; first | exact absurd a_h (by decide) | exact absurd (by decide) a_h | exact absurd a_h (Int.not_lt.mpr (Int.natCast_nonneg _)) | exact absurd (Int.natCast_nonneg _) a_h | skip))
  k_with "hdr9 isTrue" => ((with_reducible show PySem.wpAny _ _ (PySem.isTrue (PySem.Expr.Compare _ [PySem.CmpOp.LtE] [_] _) _ _) _ _ _); (k_dflt refine' Mine.isT_le ?c8o ?c8F ?c8X ?c8T ?c8l ?c8k ?c8v ?c8u ?c8b ?_ ?_; (case c8o => rfl); (case c8F => k_asm); (case c8X => k_asm); (case c8T => k_asm); (case c8l => first | with_reducible assumption | k_is); (case c8k => first | exact rfl | assumption); (case c8v => k_extra "evk"); (case c8u => k_extra "evk"); (case c8b => with_unfolding_all rfl)); all_goals (intro a_h; first | exact absurd a_h (by decide) | exact absurd (by decide) a_h | exact absurd a_h (Int.not_lt.mpr (Int.natCast_nonneg _)) | exact absurd (Int.natCast_nonneg _) a_h | skip))
  k_with "hdr9 isTrue" => ((with_reducible show PySem.wpAny _ _ (PySem.isTrue (PySem.Expr.Compare _ [PySem.CmpOp.Gt] [_] _) _ _) _ _ _); (k_dflt refine' Mine.isT_gt ?c8o ?c8F ?c8X ?c8T ?c8l ?c8k ?c8v ?c8u ?c8b ?_ ?_; (case c8o => rfl); (case c8F => k_asm); (case c8X => k_asm); (case c8T => k_asm); (case c8l => first | with_reducible assumption | k_is); (case c8k => first | exact rfl | assumption); (case c8v => k_extra "evk"); (case c8u => k_extra "evk"); (case c8b => with_unfolding_all rfl)); all_goals (intro a_h; first | exact absurd a_h (by decide) | exact absurd (by decide) a_h | exact absurd a_h (Int.not_lt.mpr (Int.natCast_nonneg _)) | exact absurd (Int.natCast_nonneg _) a_h | skip))
  k_with "hdr9 isTrue" => ((with_reducible show PySem.wpAny _ _ (PySem.isTrue (PySem.Expr.Compare _ [PySem.CmpOp.GtE] [_] _) _ _) _ _ _); (k_dflt refine' Mine.isT_ge ?c8o ?c8F ?c8X ?c8T ?c8l ?c8k ?c8v ?c8u ?c8b ?_ ?_; (case c8o => rfl); (case c8F => k_asm); (case c8X => k_asm); (case c8T => k_asm); (case c8l => first | with_reducible assumption | k_is); (case c8k => first | exact rfl | assumption); (case c8v => k_extra "evk"); (case c8u => k_extra "evk"); (case c8b => with_unfolding_all rfl)); all_goals (intro a_h; first | exact absurd a_h (by decide) | exact absurd (by decide) a_h | exact absurd a_h (Int.not_lt.mpr (Int.natCast_nonneg _)) | exact absurd (Int.natCast_nonneg _) a_h | skip))
  k_with "hdr9 isTrue" => ((with_reducible show PySem.wpAny _ _ (PySem.isTrue (PySem.Expr.Compare _ [PySem.CmpOp.Eq] [_] _) _ _) _ _ _); (k_dflt refine' Mine.isT_eq ?c8o ?c8F ?c8X ?c8T ?c8l ?c8k ?c8v ?c8u ?c8b ?_ ?_; (case c8o => rfl); (case c8F => k_asm); (case c8X => k_asm); (case c8T => k_asm); (case c8l => first | with_reducible assumption | k_is); (case c8k => first | exact rfl | assumption); (case c8v => k_extra "evk"); (case c8u => k_extra "evk"); (case c8b => with_unfolding_all rfl)); all_goals (intro a_h; first | exact absurd a_h (by decide) | exact absurd (by decide) a_h | exact absurd a_h (Int.not_lt.mpr (Int.natCast_nonneg _)) | exact absurd (Int.natCast_nonneg _) a_h | skip))
  k_with "hdr9 isTrue" => ((with_reducible show PySem.wpAny _ _ (PySem.isTrue (PySem.Expr.Compare _ [PySem.CmpOp.NotEq] [_] _) _ _) _ _ _); (k_dflt refine' Mine.isT_ne ?c8o ?c8F ?c8X ?c8T ?c8l ?c8k ?c8v ?c8u ?c8b ?_ ?_; (case c8o => rfl); (case c8F => k_asm); (case c8X => k_asm); (case c8T => k_asm); (case c8l => first | with_reducible assumption | k_is); (case c8k => first | exact rfl | assumption); (case c8v => k_extra "evk"); (case c8u => k_extra "evk"); (case c8b => with_unfolding_all rfl)); all_goals (intro a_h; first | exact absurd a_h (by decide) | exact absurd (by decide) a_h | exact absurd a_h (Int.not_lt.mpr (Int.natCast_nonneg _)) | exact absurd (Int.natCast_nonneg _) a_h | skip))
  k_with "hdr9 execs" => ((with_reducible show PySem.wpAny _ _ (PySem.execs (_ :: _) _) _ _ _); (try ((fail_if_success (fail_if_success (with_reducible show PySem.wpAny _ _ _ _ _ (PySem.Shared.mk _ _ _ (_ + 1) _)))); (with_reducible refine Mine.toksg ?_); intro tk_h)); (with_reducible refine Mine.opq ?_); intro Qs_h hQs_h)
  k_with "hdr9 execs" => ((with_reducible show PySem.wpAny _ _ (PySem.execs (_ :: _) _) _ _ _); (fail_if_success (fail_if_success (first | with_reducible refine Mine.isS (by with_reducible assumption) ?_ | with_reducible refine Mine.isO (by with_reducible assumption) ?_))); first | ((fail_if_success (fail_if_success (with_reducible show PySem.wpAny _ _ _ _ _ (PySem.Shared.mk _ _ _ (_ + 1) _)))); first | ((with_reducible refine Mine.execs_oneg ?_); intro tk_h) | ((with_reducible refine Mine.opqSg ?_); intro tk_h Qs_h hQs_h)) | (with_reducible refine Mine.execs_one ?_) | ((with_reducible refine Mine.opqS ?_); intro Qs_h hQs_h))
  k_with "hdr9 storeName" => ((with_reducible show PySem.wpAny _ _ (PySem.storeName _ _ _) _ _ _); (k_dflt refine' Mine.store_c ?c8F ?c8N ?c8c ?c8U ?c8d ?_ ?c8a ?c8b; (case c8a => first | exact rfl | assumption); (case c8b => exact rfl); (case c8F => k_asm); (case c8N => k_asm); (case c8c => exact rfl); (case c8U => k_updF); (case c8d => k_asm); k_whole); intro h_h o_h F_h n_h N_h d_h; (try k_sweep))
  k_with "hdr9 storeName" => ((with_reducible show PySem.wpAny _ _ (PySem.storeName _ _ _) _ _ _); (k_dflt refine' Mine.store_u ?c8F ?c8N ?_ ?c8a ?c8b; (case c8F => k_asm); (case c8N => k_asm); (case c8a => first | exact rfl | assumption); (case c8b => exact rfl); k_whole); intro h_h m_h F_h N_h; (try k_sweep))
  k_with "hdr9 binaryOp" => ((with_reducible show PySem.wpAny _ _ (PySem.binaryOp PySem.Operator.Add (PySem.Value.ref _) (PySem.Value.ref _)) _ _ _); (k_dflt refine' Mine.add_led ?c8hF ?c8hN ?c8h1 ?c8h2 ?c8hz ?_; (case c8hF => k_asm); (case c8hN => k_asm); (case c8h1 => k_mem); (case c8h2 => k_mem); (case c8hz => ((try simp only [List.length_cons, List.length_nil]); first | exact Nat.le_trans (Nat.add_le_add_right (by with_reducible assumption) _) (by decide) | (first | lia | omega)))); intro d_h h_h F_h n_h N_h l_h; (try dsimp only); (try k_fold))
  k_with "hdr9 spliced" => ((with_reducible show PySem.wpAny _ _ (PySem.spliced (PySem.backTo _ (PySem.starEach (_ :: _) _))) _ _ _); (k_dflt refine' Mine.args_ev ?c8o ?c8F ?c8X ?c8T ?c8l ?c8k ?c8v ?_; (case c8o => rfl); (case c8F => k_asm); (case c8X => k_asm); (case c8T => k_asm); (case c8l => first | with_reducible assumption | k_is); (case c8k => first | exact rfl | assumption); (case c8v => k_extra "evk"); k_whole); (try dsimp only [List.nil_append, List.cons_append]))
  k_with "hdr9 pyIter" => with_reducible refine Mine.stop_iter ?_
  k_with "hdr9 newList" => ((with_reducible show PySem.wpAny _ _ (PySem.newList _) _ _ _); (k_dflt refine' Mine.newList_L ?c8F ?c8N ?c8z ?_; (case c8F => k_asm); (case c8N => k_asm); (case c8z => first | exact Nat.le_of_ble_eq_true rfl | size_fits); k_whole); intro l_h h_h F_h n_h N_h a_h; (try k_sweep))
  k_with "hdr9 newTuple" => ((with_reducible show PySem.wpAny _ _ (PySem.newTuple _) _ _ _); (k_dflt refine' Mine.newTuple_L ?c8F ?c8N ?c8z ?_; (case c8F => k_asm); (case c8N => k_asm); (case c8z => first | exact Nat.le_of_ble_eq_true rfl | size_fits); k_whole); intro l_h h_h F_h n_h N_h a_h; (try k_sweep))
  k_with "hdr9 other" => (with_reducible refine Mine.SubQ.go (by with_reducible assumption) ?_; (try dsimp only))
  k_with "hdr9 other" => with_reducible refine Mine.SeqQ.cont (by with_reducible assumption) ?_
  k_with "hdr9 other" => with_reducible refine Mine.SeqQ.brk (by with_reducible assumption) ?_
  k_with "hdr9 other" => with_reducible refine Mine.SeqQ.ret (by with_reducible assumption) ?_
  k_with "hdr9 other" => with_reducible refine Mine.CyQ.out (by with_reducible assumption) (by with_reducible assumption) (by with_reducible assumption) ?_
  k_with "hdr9 other" => ((with_reducible refine Mine.CtQ.both (by with_reducible assumption) (by with_reducible assumption) (by with_reducible assumption) ?_ ?_) <;> intro b_h)
  k_with "hdr9 other" => with_reducible refine Mine.CtQ.no (by with_reducible assumption) (by with_reducible assumption) (by with_reducible assumption) ?_
  k_with "hdr9 other" => with_reducible refine Mine.CtQ.yes (by with_reducible assumption) ?_
  k_with "hdr9 other" => with_reducible refine Mine.SeqQ.next (by with_reducible assumption) ?_
  k_with "hdr9 other" => with_reducible refine Mine.stop_ksw ?_
  k_with "hdr9 other" => with_reducible refine Mine.stop_src ?_
  k_with "hdr9 other" => with_reducible refine Mine.stop_srcT ?_
  k_with "hdr9 other" => with_reducible refine Mine.stop_srcS ?_
  k_with "hdr9 other" => with_reducible refine Mine.stop_end ?_
  k_with "hdr9 other" => with_reducible refine Mine.stop_turn ?_
  k_with "hdr9 other" => with_reducible refine Mine.stop_turnC ?_
  k_with "hdr9 other" => with_reducible refine Mine.TurnP.ret ?_
  k_with "hdr9" => (first | ((with_reducible show PySem.wpAny _ _ _ _ _ _); first | ((with_reducible show PySem.wpAny _ _ (PySem.eval _ _) _ _ _); k_extra "hdr9 eval") | ((with_reducible show PySem.wpAny _ _ (PySem.call _ _ _) _ _ _); k_extra "hdr9 call") | ((with_reducible show PySem.wpAny _ _ (PySem.exec _ _) _ _ _); k_extra "hdr9 exec") | ((with_reducible show PySem.wpAny _ _ (PyProof.Rows.subscriptTail _ _ _ _) _ _ _); k_extra "hdr9 subscriptTail") | ((with_reducible show PySem.wpAny _ _ (PySem.isTrue _ _ _) _ _ _); k_extra "hdr9 isTrue") | ((with_reducible show PySem.wpAny _ _ (PySem.execs _ _) _ _ _); k_extra "hdr9 execs") | ((with_reducible show PySem.wpAny _ _ (PySem.storeName _ _ _) _ _ _); k_extra "hdr9 storeName") | ((with_reducible show PySem.wpAny _ _ (PySem.binaryOp _ _ _) _ _ _); k_extra "hdr9 binaryOp") | ((with_reducible show PySem.wpAny _ _ (PySem.spliced _) _ _ _); k_extra "hdr9 spliced") | ((with_reducible show PySem.wpAny _ _ (PySem.pyIter _) _ _ _); k_extra "hdr9 pyIter") | ((with_reducible show PySem.wpAny _ _ (PySem.newList _) _ _ _); k_extra "hdr9 newList") | ((with_reducible show PySem.wpAny _ _ (PySem.newTuple _) _ _ _); k_extra "hdr9 newTuple") | fail) | ((fail_if_success (with_reducible show PySem.wpAny _ _ _ _ _ _)); k_extra "hdr9 other"))
  k_with "mineS22 eval" => ((with_reducible show PySem.wpAny _ _ (PySem.eval (PySem.Expr.IfExp _ _ _ _) _) _ _ _); (fail_if_success (fail_if_success (have := (by with_reducible assumption : Mine.Md 22)))); with_reducible refine Mine.Stop.out ?_)
  k_with "mineS22 call" => ((with_reducible show PySem.wpAny _ _ (PySem.call (PySem.Value.ref 495) _) _ _ _); (fail_if_success (fail_if_success (have := (by with_reducible assumption : Mine.Md 22)))); with_reducible refine Mine.Stop.out ?_)
  k_with "mineS22 exec" => ((with_reducible show PySem.wpAny _ _ (PySem.exec (PySem.Stmt.Assign [PySem.Expr.Name (PySem.Str.ofString "sought") _] _ _) _) _ _ _); (fail_if_success (fail_if_success (have := (by with_reducible assumption : Mine.Md 22)))); (fail_if_success (have := (by with_reducible assumption : Mine.Md 23))); with_reducible refine Mine.Stop.out ?_)
  k_with "mineS22 subscriptTail" => ((with_reducible show PySem.wpAny _ _ (PyProof.Rows.subscriptTail _ (PySem.Expr.Slice (some _) (some _) none _) (PySem.Value.str _ _) (PySem.Value.ref _)) _ _ _); (fail_if_success (fail_if_success (have := (by with_reducible assumption : Mine.Md 22)))); (k_dflt refine' Mine.slice_tok_ss (s := ⟨_, _, _, _, _⟩) ?c8sF ?c8sN ?c8s0 ?c8s1 ?c8sx ?_; (case c8sF => k_asm); (case c8sN => k_asm); (case c8s0 => assumption); (case c8s1 => (dsimp only; (first | lia | omega))); (case c8sx => (rw [Mine.S_len]; (first | lia | omega)))); intro h_h t_h k_h F_h N_h l_h a_h b_h c_h; (try dsimp only at c_h); (try dsimp only); (try k_fold))
  k_with "mineS22 subscriptTail" => ((with_reducible show PySem.wpAny _ _ (PyProof.Rows.subscriptTail _ (PySem.Expr.Slice none (some _) none _) (PySem.Value.str _ _) (PySem.Value.ref _)) _ _ _); (fail_if_success (fail_if_success (have := (by with_reducible assumption : Mine.Md 22)))); (k_dflt refine' Mine.slice_tok_ns (s := ⟨_, _, _, _, _⟩) ?c8sF ?c8sN ?c8s0 ?c8s1 ?c8sx ?_; (case c8sF => k_asm); (case c8sN => k_asm); (case c8s0 => assumption); (case c8s1 => (dsimp only; (first | lia | omega))); (case c8sx => (rw [Mine.S_len]; (first | lia | omega)))); intro h_h t_h k_h F_h N_h l_h a_h b_h c_h; (try dsimp only at c_h); (try dsimp only); (try k_fold))
  k_with "mineS22 subscriptTail" => ((with_reducible show PySem.wpAny _ _ (PyProof.Rows.subscriptTail (PySem.Expr.List _ _) (PySem.Expr.Call _ _ _ _) (PySem.Value.ref _) (PySem.Value.int _ _)) _ _ _); (fail_if_success (fail_if_success (have := (by with_reducible assumption : Mine.Md 22)))); with_reducible refine Mine.Stop.out ?_)
  k_with "mineS22 execs" => ((with_reducible show PySem.wpAny _ _ (PySem.execs (_ :: _) _) _ _ _); (fail_if_success (fail_if_success (have := (by with_reducible assumption : Mine.Md 22)))); (try dsimp only); first | ((fail_if_success (fail_if_success (first | with_reducible refine Mine.isS (by with_reducible assumption) ?_ | with_reducible refine Mine.isO (by with_reducible assumption) ?_))); first | (with_reducible refine Mine.execs_one ?_) | ((with_reducible refine Mine.opqS ?_); intro Qs_h hQs_h)) | ((with_reducible refine Mine.opq ?_); intro Qs_h hQs_h))
  k_with "mineS22" => (first | ((with_reducible show PySem.wpAny _ _ _ _ _ _); first | ((with_reducible show PySem.wpAny _ _ (PySem.eval _ _) _ _ _); k_extra "mineS22 eval") | ((with_reducible show PySem.wpAny _ _ (PySem.call _ _ _) _ _ _); k_extra "mineS22 call") | ((with_reducible show PySem.wpAny _ _ (PySem.exec _ _) _ _ _); k_extra "mineS22 exec") | ((with_reducible show PySem.wpAny _ _ (PyProof.Rows.subscriptTail _ _ _ _) _ _ _); k_extra "mineS22 subscriptTail") | ((with_reducible show PySem.wpAny _ _ (PySem.execs _ _) _ _ _); k_extra "mineS22 execs") | fail))
  k_with "call ref" => ((with_reducible show PySem.wpAny _ _ (PySem.call (PySem.Value.ref 434) _ _) _ _ _); k_dflt (refine' Mine.take_use take2_spec ?c7hB ?c7hc ?c7hm ?c7hm2 ?c7k1 ?c7k2 ?c7k3 ?c7k4 ?c7kU ?c7k5 ?c7kK ?c7kd ?c7ku ?_; (case c7k1 => k_asm); (case c7k2 => k_asm); (case c7k3 => k_asm); (case c7k4 => k_asm); (case c7kU => k_updF); (case c7hB => with_reducible assumption); (case c7hc => first | with_reducible assumption | (with_reducible refine Mine.bx1 (by with_reducible assumption) ?_; decide) | (with_reducible refine Mine.bx2 (by with_reducible assumption) ?_; decide) | (with_reducible refine Mine.bx3 (by with_reducible assumption) ?_; decide) | (with_reducible refine Mine.bx4 (by with_reducible assumption) ?_; decide) | (with_reducible refine Mine.bx5 (by with_reducible assumption) ?_; decide) | (with_reducible refine Mine.bx6 (by with_reducible assumption) ?_; decide) | (with_reducible refine Mine.bx7 (by with_reducible assumption) ?_; decide) | (with_reducible refine Int.lt_trans (by with_reducible assumption) ?_; decide) | (first | lia | omega)); (case c7hm => first | decide | (first | lia | omega)); (case c7hm2 => first | decide | (first | lia | omega)); (case c7k5 => k_asm); (case c7kK => first | exact rfl | assumption); (case c7kd => k_room); (case c7ku => k_units)); intro o9 d9 t9 h9 tk9 le9 F9 n9 N9 hB9 hd9 hd9'; (try dsimp only at le9); (try dsimp only at N9); (try dsimp only); (try k_fold))
  k_with "call ref" => ((with_reducible show PySem.wpAny _ _ (PySem.call (PySem.Value.ref 446) _ _) _ _ _); k_dflt (refine' Mine.drawn_use drawn_spec ?c7hB ?c7hc ?c7hal ?c7hm ?c7hm2 ?c7k1 ?c7k2 ?c7k3 ?c7k4 ?c7kU ?c7k5 ?c7kK ?c7kd ?c7ku ?_; (case c7k1 => k_asm); (case c7k2 => k_asm); (case c7k3 => k_asm); (case c7k4 => k_asm); (case c7kU => k_updF); (case c7hB => with_reducible assumption); (case c7hc => first | with_reducible assumption | (with_reducible refine Mine.bx1 (by with_reducible assumption) ?_; decide) | (with_reducible refine Mine.bx2 (by with_reducible assumption) ?_; decide) | (with_reducible refine Mine.bx3 (by with_reducible assumption) ?_; decide) | (with_reducible refine Mine.bx4 (by with_reducible assumption) ?_; decide) | (with_reducible refine Mine.bx5 (by with_reducible assumption) ?_; decide) | (with_reducible refine Mine.bx6 (by with_reducible assumption) ?_; decide) | (with_reducible refine Mine.bx7 (by with_reducible assumption) ?_; decide) | (with_reducible refine Int.lt_trans (by with_reducible assumption) ?_; decide) | (first | lia | omega)); (case c7hal => with_reducible assumption); (case c7hm => first | decide | (first | lia | omega)); (case c7hm2 => first | decide | (first | lia | omega)); (case c7k5 => k_asm); (case c7kK => first | exact rfl | assumption); (case c7kd => k_room); (case c7ku => k_units)); intro r9 o9 h9 tk9 le9 F9 n9 N9 P9; (try dsimp only at le9); refine Mine.hideG ?_; intro gP_h hG_h; obtain ⟨hB9, l9, t9, rfl, hl9, hm9, p9, lt9⟩ := P9; refine hG_h ?_; clear hG_h; have p8 : @LT.lt Nat _ 0 t9 := p9; have q8 : @LT.lt Nat _ t9 tk9 := lt9; have le8 : @LE.le Nat _ _ tk9 := le9; (try dsimp only at N9); (try dsimp only); (try k_fold))
  k_with "call ref" => ((with_reducible show PySem.wpAny _ _ (PySem.call (PySem.Value.ref 480) _ _) _ _ _); k_dflt (refine' Mine.boxT_use (fun rest hoff => setsright_spec _ _ _ _ _ _ _ _ _ rest ?c7hB ?c7hc ?c7hal ?c7hx hoff) ?c7k1 ?c7k2 ?c7k3 ?c7k4 ?c7kU ?c7k5 ?c7kK ?c7kd ?c7ku ?_; (case c7k1 => k_asm); (case c7k2 => k_asm); (case c7k3 => k_asm); (case c7k4 => k_asm); (case c7kU => k_updF); (case c7hB => with_reducible assumption); (case c7hc => first | with_reducible assumption | (with_reducible refine Mine.bx1 (by with_reducible assumption) ?_; decide) | (with_reducible refine Mine.bx2 (by with_reducible assumption) ?_; decide) | (with_reducible refine Mine.bx3 (by with_reducible assumption) ?_; decide) | (with_reducible refine Mine.bx4 (by with_reducible assumption) ?_; decide) | (with_reducible refine Mine.bx5 (by with_reducible assumption) ?_; decide) | (with_reducible refine Mine.bx6 (by with_reducible assumption) ?_; decide) | (with_reducible refine Mine.bx7 (by with_reducible assumption) ?_; decide) | (with_reducible refine Int.lt_trans (by with_reducible assumption) ?_; decide) | (first | lia | omega)); (case c7hal => with_reducible assumption); (case c7hx => first | with_reducible assumption | exact Nat.le_trans (by with_reducible assumption) (by decide) | (first | lia | omega)); (case c7k5 => k_asm); (case c7kK => first | exact rfl | assumption); (case c7kd => k_room); (case c7ku => k_units)); intro o9 h9 tk9 le9 F9 n9 N9 hB9; have le8 : @LE.le Nat _ _ tk9 := le9; (try dsimp only at le8); (try dsimp only at N9); (try dsimp only); (try k_fold))
  k_with "call ref" => ((with_reducible show PySem.wpAny _ _ (PySem.call (PySem.Value.ref 485) _ _) _ _ _); k_dflt (refine' Mine.boxT_use (trright_spec _ _ _ _ _ _ _ _ _ ?c7hB ?c7hc ?c7hal ?c7hx) ?c7k1 ?c7k2 ?c7k3 ?c7k4 ?c7kU ?c7k5 ?c7kK ?c7kd ?c7ku ?_; (case c7k1 => k_asm); (case c7k2 => k_asm); (case c7k3 => k_asm); (case c7k4 => k_asm); (case c7kU => k_updF); (case c7hB => with_reducible assumption); (case c7hc => first | with_reducible assumption | (with_reducible refine Mine.bx1 (by with_reducible assumption) ?_; decide) | (with_reducible refine Mine.bx2 (by with_reducible assumption) ?_; decide) | (with_reducible refine Mine.bx3 (by with_reducible assumption) ?_; decide) | (with_reducible refine Mine.bx4 (by with_reducible assumption) ?_; decide) | (with_reducible refine Mine.bx5 (by with_reducible assumption) ?_; decide) | (with_reducible refine Mine.bx6 (by with_reducible assumption) ?_; decide) | (with_reducible refine Mine.bx7 (by with_reducible assumption) ?_; decide) | (with_reducible refine Int.lt_trans (by with_reducible assumption) ?_; decide) | (first | lia | omega)); (case c7hal => with_reducible assumption); (case c7hx => first | with_reducible assumption | exact Nat.le_trans (by with_reducible assumption) (by decide) | (first | lia | omega)); (case c7k5 => k_asm); (case c7kK => first | exact rfl | assumption); (case c7kd => k_room); (case c7ku => k_units)); intro o9 h9 tk9 le9 F9 n9 N9 hB9; have le8 : @LE.le Nat _ _ tk9 := le9; (try dsimp only at le8); (try dsimp only at N9); (try dsimp only); (try k_fold))
  k_with "call ref" => ((with_reducible show PySem.wpAny _ _ (PySem.call (PySem.Value.ref 490) _ _) _ _ _); k_dflt (refine' Mine.Fn.use (backright_spec _ _ _ _ _ _ ?c7hal ?c7hx ?c7hm) ?c7k1 ?c7k2 ?c7k3 ?c7k4 ?c7k5 ?c7kK ?c7kd ?c7ku ?_; (case c7k1 => k_asm); (case c7k2 => k_asm); (case c7k3 => k_asm); (case c7k4 => k_asm); (case c7k5 => k_asm); (case c7hal => with_reducible assumption); (case c7hx => first | with_reducible assumption | exact Nat.le_trans (by with_reducible assumption) (by decide) | (first | lia | omega)); (case c7hm => with_reducible assumption); (case c7kK => first | exact rfl | assumption); (case c7kd => k_room); (case c7ku => k_units)); intro r9 n9 h9 tk9 le9 F9 N9 P9; refine Mine.hideG ?_; intro gP_h hG_h; obtain ⟨rfl, rfl⟩ := P9; refine hG_h ?_; clear hG_h; have le8 : @LE.le Nat _ _ tk9 := le9; (try dsimp only at le8); (try dsimp only); (try k_fold))
  k_with "call ref" => ((with_reducible show PySem.wpAny _ _ (PySem.call (PySem.Value.ref 500) _ _) _ _ _); k_dflt (refine' Mine.boxT_use (placesright_spec _ _ _ _ _ _ _ _ _ ?c7hB ?c7hc ?c7hx ?c7hy) ?c7k1 ?c7k2 ?c7k3 ?c7k4 ?c7kU ?c7k5 ?c7kK ?c7kd ?c7ku ?_; (case c7k1 => k_asm); (case c7k2 => k_asm); (case c7k3 => k_asm); (case c7k4 => k_asm); (case c7kU => k_updF); (case c7hB => with_reducible assumption); (case c7hc => first | with_reducible assumption | (with_reducible refine Mine.bx1 (by with_reducible assumption) ?_; decide) | (with_reducible refine Mine.bx2 (by with_reducible assumption) ?_; decide) | (with_reducible refine Mine.bx3 (by with_reducible assumption) ?_; decide) | (with_reducible refine Mine.bx4 (by with_reducible assumption) ?_; decide) | (with_reducible refine Mine.bx5 (by with_reducible assumption) ?_; decide) | (with_reducible refine Mine.bx6 (by with_reducible assumption) ?_; decide) | (with_reducible refine Mine.bx7 (by with_reducible assumption) ?_; decide) | (with_reducible refine Int.lt_trans (by with_reducible assumption) ?_; decide) | (first | lia | omega)); (case c7hx => first | with_reducible assumption | exact Nat.le_trans (by with_reducible assumption) (by decide) | (first | lia | omega)); (case c7hy => first | with_reducible assumption | exact Nat.le_trans (by with_reducible assumption) (by decide) | (first | lia | omega)); (case c7k5 => k_asm); (case c7kK => first | exact rfl | assumption); (case c7kd => k_room); (case c7ku => k_units)); intro o9 h9 tk9 le9 F9 n9 N9 hB9; (try dsimp only at N9); (try dsimp only); (try k_fold))
  have hmd : Md 22 := Md.on 22
  have hlocs_h : Mine.Names [Str.ofString "alphabet", Str.ofString "box", Str.ofString "cell", Str.ofString "great", Str.ofString "script", Str.ofString "seed", Str.ofString "small", Str.ofString "sought", Str.ofString "text", Str.ofString "turn"] := trivial
  w_strict (k_go0; (all_goals try k_fold))
  k_steps
  refine Stop.go ?_
  rename Fr _ _ _ (fun _ => _) => F1
  k_dflt refine' For_invVF F1 (by rfl) (by rfl) ?_
  k_steps
  refine Stop.go ?_
  rename News _ _ _ _ => N2
  rename IntsAre _ (List.take 24 _) => hI24
  refine for_list (σ := BxC) (nn := 0) (fun c => [(Str.ofString "seed", Value.int c.seed c.ts), (Str.ofString "great", Value.int c.great c.tg), (Str.ofString "small", Value.bool c.small)]) [] (BxJ _) ⟨67, _, 0, _, true⟩ (by rfl) (.head _) (by k_asm) N2 (by kst_all) ⟨rfl, (by decide : (0 : Int) ≤ 67), (by decide : (67 : Int) < 2147483629), Int.le_refl 0⟩ ?turn_34 ?done_34
  case turn_34 =>
    rintro i v ⟨sd, ts, gr, tg, sm⟩ nx u h7 tk7 own hv hln ⟨rfl, hs0, hs1, hg0⟩ hoff F7 N7
    (try dsimp only at F7 N7 hs0 hs1 hg0 hoff)
    simp only [List.cons_append, List.nil_append] at N7
    obtain ⟨n, tn, rfl⟩ := ints_at hI24 hv
    have hm0 := Int.fmod_nonneg_of_pos (sd * 48271 + n * 69621 + 61) (b := 2147483629) (by decide)
    have hm1 := Int.fmod_lt_of_pos (sd * 48271 + n * 69621 + 61) (b := 2147483629) (by decide)
    k_steps
    all_goals (try refine Stop.go ?_)
    all_goals (rename Fr _ _ _ _ => F0; rename News _ _ _ _ => N0)
    all_goals (refine TurnP.next ⟨_, _, _, _, _⟩ _ F0 N0 ?_ ?_ hoff (by kst_all) (by kst_same) ⟨?_, rfl, hm0, hm1, ?_⟩)
    all_goals first
      | exact .head _
      | exact hg0
      | (k_extra "subw"; done)
      | ((try dsimp only); (first | lia | omega))
  case done_34 =>
    rintro ⟨sd, ts, gr, tg, sm⟩ nx u h7 tk7 ⟨rfl, hs0, hs1, hg0⟩ F7 N7
    (try dsimp only at F7 N7 hs0 hs1 hg0)
    k_steps
    refine Stop.go ?_
    rename News _ _ _ _ => N3
    rename Fr _ _ _ (fun _ => _) => F2
    k_dflt refine' For_invVF F2 (by rfl) (by rfl) ?_
    k_steps
    refine Stop.go ?_
    refine cut_val (IntV 1 3) (by k_asm) N3 ?_ ?_
    · walk_at "eval IfExp"
      k_steps
      all_goals exact ⟨_, _, ⟨_, _, rfl, by decide, by decide⟩, rfl, by k_asm, by k_asm⟩
    rintro _ h8 tk8 ⟨n9, t9, rfl, hn1, hn3⟩ le8 F8 N8
    k_steps
    refine Stop.go ?_
    refine for_range (σ := Obj) (n := n9.toNat) (fun _ => []) [Str.ofString "alphabet", Str.ofString "text", Str.ofString "sought"] (LwJ _ [] sm) _ (by rfl) (by assumption) (range_ok (by (first | lia | omega)) (by (first | lia | omega)) (by (first | lia | omega)) (by (first | lia | omega))) (by rw [rangeSize_nat]; (first | lia | omega)) (by k_asm) (cb_drop (news := [_]) (by k_asm) (List.cons_subset_cons _ (List.nil_subset _))) (List.forall_mem_nil _) ⟨rfl, gr, sd, 0, _, _, _, _, rfl, hg0, hs0, hs1, by decide, by decide⟩ ?turnB_34 ?doneB_34
    case turnB_34 =>
      rintro i v oc nx u h7 tk7 own hi ⟨tv, rfl⟩ ⟨rfl, hB⟩ hoff F7 N7
      (try dsimp only at F7 N7 hB hoff)
      simp only [List.cons_append, List.nil_append] at N7
      have hi3 : i < 3 := by (first | lia | omega)
      have hci3 : 1000 * (i : Int) < 2001 := by (first | lia | omega)
      k_steps
      refine Stop.go ?_
      refine item_menu (P := AlphV) (n := 7) (by k_asm) (.head _) (by rfl) hd9 hd9' (by decide) menu7 ?_
      rintro _ ⟨al, ta, rfl, hal, hal1⟩
      k_steps
      refine Stop.go ?_
      refine cut_val (IntV 1 15) (by k_asm) (by k_asm) ?_ ?_
      · obtain ⟨g0, sd0, c0, t10, t20, t30, nn0, rfl, -, -, -, -, -⟩ := hB9
        walk_at "eval IfExp"
        k_steps
        all_goals exact ⟨_, _, ⟨_, _, rfl, by decide, by decide⟩, rfl, by k_asm, by k_asm⟩
      rintro _ h8 tk8 ⟨n8, t8, rfl, hn18, hn38⟩ le8 F8 N8
      rename News _ _ _ _ => N3
      have N4 := cb_drop (news := (_, o9) :: own) N3 (fun p hp => .tail _ hp)
      clear N3
      k_steps
      refine Stop.go ?_
      rename List Nat => lA
      rename (∀ x, x ∈ lA → x ∈ al.cps.toList) => hmA
      have hxA : (S lA).length ≤ 20 := by rw [S_len]; (first | lia | omega)
      have hxB : (S lA).length ≤ 100 := by (first | lia | omega)
      have hxC : ∀ c ∈ (S lA).cps.toList, c ∈ al.cps.toList := by rw [S_cps]; exact hmA
      have hmd3 : Md 23 := Md.on 23
      k_steps
      refine Stop.go ?_
      rename List Nat => lB
      rename (∀ x, x ∈ lB → x ∈ al.cps.toList) => hmB
      refine item_menuT (P := SoughtV) (n := 5) (by k_asm) (.head _) (by rfl) hd9 hd9' (by decide) (menu5 ?m1_34 ?m2_34 (fun c hc => hal1 c (hmA c hc)) (fun c hc => hal1 c (hmB c hc)) ?a1_34 ?a2_34 ?a3_34 ?a4_34 ?a5_34 ?a6_34 ?a7_34 ?a8_34 ?a9_34 ?a10_34) ?_
      case m1_34 => rw [← S_len]; exact hxA
      case m2_34 => (first | lia | omega)
      iterate 10 ((try dsimp only); (first | lia | omega))
      rintro _ ⟨y, ty, rfl, hy20, hy1, hty0, hty⟩
      (try dsimp only at hty)
      rename News _ _ _ _ => N5
      have N6 := cb_drop (news := (_, o9) :: own) N5 (fun p hp => .tail _ hp)
      clear N5
      k_steps
      refine Stop.go ?_
      refine item_menuT (P := PutV (ty + 1)) (n := 4) (by k_asm) (.head _) (by rfl) hd9 hd9' (by decide) (menu4 ?b1_34 ?b2_34 ?b3_34 ?b4_34 ?b5_34 ?b6_34 ?b7_34 ?b8_34) ?_
      iterate 8 ((try dsimp only); (first | lia | omega))
      rintro _ ⟨z, tz, rfl, hz20, htz0, htz⟩
      (try dsimp only at htz)
      rename News _ _ _ _ => N7
      have N8 := cb_drop (news := (_, o9) :: own) N7 (fun p hp => .tail _ hp)
      clear N7
      have hx1 : 1 ∉ (S lA).cps.toList := by rw [S_cps]; exact fun h => hal1 1 (hmA 1 h) rfl
      k_steps
      refine Stop.go ?_
      k_dflt (refine' FnT.use (replacedright_spec _ _ _ _ _ _ _ _ hxA hy20 hz20 hx1 hy1 hty0 ?tz0_34 ?tne_34) ?kP_34 ?k1_34 ?k2_34 ?k3_34 ?k4_34 ?k5_34 ?kK_34 ?kd_34 ?ku_34 ?_; (case k1_34 => k_asm); (case k2_34 => k_asm); (case k3_34 => k_asm); (case k4_34 => k_asm); (case k5_34 => k_asm); (case kK_34 => first | exact rfl | assumption); (case kd_34 => k_room); (case ku_34 => k_units))
      case tz0_34 => exact Nat.lt_of_lt_of_le (Nat.succ_pos _) htz0
      case tne_34 => exact fun e => absurd e (Nat.ne_of_lt htz0)
      case kP_34 => exact ⟨(by (try dsimp only); (first | lia | omega) : @LT.lt Nat _ ty _), (by (try dsimp only); (first | lia | omega) : @LT.lt Nat _ tz _)⟩
      intro r9 n9 h9 tk9 le9 F9 N9 P9
      obtain ⟨rfl, rfl⟩ := P9
      (try dsimp only)
      (try k_fold)
      k_steps
      refine Stop.go ?_
      rename Fr _ _ _ _ => F0
      rename News _ _ _ _ => N0
      refine TurnP.next o9 [(_, o9)] F0 N0 (List.cons_subset_cons _ (List.nil_subset _)) (List.subset_cons_self _ _) hoff (List.forall_mem_nil _) (by kst_same) ⟨rfl, BoxO.mono hB9 (by (first | lia | omega))⟩
    case doneB_34 =>
      rintro oc nx u h7 tk7 ⟨rfl, hB⟩ F7 N7
      k_steps
end
end Mine
end
theorem PySem.Challenge.cw_nz0043_01_holds : PySem.Challenge.rw_nz0043_01.Holds := by
  exact Mine.main
