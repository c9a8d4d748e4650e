import PyProof.Rows.All
import Wide.All
import OpenK.AllK
import Wide.FinOn
import PySem.Challenge.RW_or0018_01
set_option Elab.async false

/-! top -/
namespace Mine
open PySem PySem.W PyProof.Rows
set_option maxRecDepth 100000
set_option maxHeartbeats 8000000
open_top hd for PySem.Challenge.rw_or0018_01
end Mine

/-! rules -/
namespace Mine
open PySem PySem.W PySem.Calls PyProof.Rows PySem.Builtin
set_option maxRecDepth 100000

theorem slot_find : Slot "bytes" "find" "bytes.find" :=
  .of (owner := "bytes") (n := "find") (by rw [typeLookup_type, builtinLookup_eq_fast]; kernel_rfl) (by decide +kernel) (by decide +kernel) (by decide +kernel)
    (by first | exact .inl (by decide +kernel) | exact .inr (by decide +kernel)) (by rw [isSubtype_type]; kernel_rfl)
theorem type_find : typeOf (.builtin "bytes.find") = pure (.type "method_descriptor") := by show builtinType _ = _; rw [builtinType_eq_fast]; kernel_rfl
theorem entry_find : entryFor table "bytes.find" = some Builtin.«bytes.find» := entryFor_of_tree (by kernel_rfl)
theorem args_find (a b c : Value) : argsOk "bytes.find" ⟨[a, b, c], []⟩ := by
  unfold argsOk; rw [signature?_of (id := "bytes.find") (n := ['d', 'n', 'i', 'f']) (o := ['s', 'e', 't', 'y', 'b']) (by kernel_rfl) FB.owner_bytes]; kernel_rfl

theorem some_find (b c d : Value) : selfAndSome "bytes.find" "find" 1 3 ⟨[b, c, d], []⟩ = pure (b, [c, d]) := by kernel_rfl
theorem bound_int (i : Int) (u : Tok) : Bytes.bound? (some (.int i u)) = pure (some i) := by kernel_rfl

/-- where CRLF is found from a place on, -1 if nowhere -/
def seekI (b c : Array UInt8) (i : Nat) : Int :=
  match (if (b.size : Int) - (i : Int) < c.size then none else some (i, b.size)).bind fun (lo, hi) => Bytes.find? b c lo hi with
  | some k => (k : Int)
  | none => -1

theorem args_eq (b c : Array UInt8) (i : Nat) (t u v : Tok) (hi : i ≤ b.size) :
    Bytes.searchArgs .bytes "find" ⟨[.bytes b t, .bytes c u, .int (i : Int) v], []⟩ = pure (b, c, if (b.size : Int) - (i : Int) < c.size then none else some (i, b.size)) := by
  have e1 : Bytes.window b.size (some (i : Int)) none = ((i : Int), (b.size : Int)) := by
    unfold Bytes.window
    have h1 : ¬ ((i : Int) < 0) := by omega
    have h2 : ¬ ((b.size : Int) < 0) := by omega
    simp only [Option.getD_some, Option.getD_none, h1, h2, if_false]
    rw [Int.min_self]
  unfold Bytes.searchArgs
  show (selfAndSome "bytes.find" "find" 1 3 _ >>= fun r => _) = _
  rw [some_find]
  simp only [pure_bind]
  show (Bytes.bound? (some (.int (i : Int) v)) >>= fun r => _) = _
  rw [bound_int]
  simp only [pure_bind]
  show (Bytes.bound? none >>= fun r => _) = _
  have e2 : Bytes.bound? none = pure none := by kernel_rfl
  rw [e2]
  simp only [pure_bind]
  show (Bytes.buffer? _ (.bytes c u) >>= fun r => _) = _
  rw [KBy.buffer_eq]
  simp only [pure_bind]
  have e3 : Bytes.payload (.bytes b t) = pure b := by kernel_rfl
  rw [e3]
  simp only [pure_bind, e1]
  rfl

theorem gives_find (b c : Array UInt8) (i : Nat) (t u v : Tok) (hi : i ≤ b.size) :
    Gives («bytes.find» ⟨[.bytes b t, .bytes c u, .int (i : Int) v], []⟩) (.int (seekI b c i)) := by
  show Gives (Bytes.searchArgs .bytes "find" _ >>= fun r => _) _
  rw [args_eq b c i t u v hi]
  simp only [pure_bind]
  unfold seekI
  split
  · rename_i k hk
    simp only [Bool.false_eq_true, if_false] at hk ⊢
    rw [hk]
    exact .of_eq rfl
  · rename_i hk
    simp only [Bool.false_eq_true, if_false] at hk ⊢
    rw [hk]
    exact .rule (.of_eq rfl)

section
variable {prog : Program} {w : World} {A : Around} {E : Value → Shared → Prop} {s : Shared}
theorem find_any {b c : Array UInt8} {i : Nat} {t u v : Tok} {Q : Value → Shared → Prop} (hi : i ≤ b.size) (h : ∀ t' k, Q (.int (seekI b c i) t') { s with toks := k }) :
    wpAny (model prog w) A (call (.builtin "bytes.find") [.bytes b t, .bytes c u, .int (i : Int) v]) Q E s :=
  call_meets slot_find (typeIs_bytes _ _ _) entry_find (args_find _ _ _) (gives_find b c i t u v hi).meets (h _ _)
theorem find_method {M : Model} {b : Array UInt8} {t : Tok} {pl : Sem Bool} {Q : Value × List Value → Shared → Prop} (h : Q (.builtin "bytes.find", [.bytes b t]) s) : wpAny M A (getMethod (.bytes b t) "find" pl) Q E s := by
  with_reducible exact KBd.method_of (.bytes b t) (typeIs_bytes _ _ _) slot_find type_find KBd.noRef h
end
end Mine

/-! pure -/
namespace Mine

/-- the first CRLF of a list, by its place -/
def seekL : List UInt8 → Option Nat
  | [] => none
  | a :: r => if a = 13 ∧ r.head? = some 10 then some 0 else (seekL r).map (· + 1)

def isFig (c : UInt8) : Bool := decide (48 ≤ c.toNat) && decide (c.toNat ≤ 57)

/-- back over the figures that end at a place, no farther than b -/
def back (d : List UInt8) (b : Nat) : Nat → Nat
  | 0 => 0
  | n + 1 => if b ≤ n ∧ isFig (d.getD n 0) = true then back d b n else n + 1

def num (x : List UInt8) : Int := x.foldl (fun a c => a * 10 + (c.toNat : Int) - 48) 0

/-- the piece of a list between two places -/
def piece (d : List UInt8) (b e : Nat) : List UInt8 := (d.drop b).take (e - b)

def waitsF (d : List UInt8) (b e : Nat) : Bool := decide (e - 1 ≤ b ∨ d.getD (e - 2) 0 ≠ 43)
def lastF (d : List UInt8) (b e : Nat) : Nat := if waitsF d b e = true then e - 1 else e - 2
def firstF (d : List UInt8) (b e : Nat) : Nat := back d b (lastF d b e)

/-- the head of a literal between two places -/
def headF (d : List UInt8) (b e : Nat) : Option (Int × Bool) :=
  if e ≤ b ∨ d.getD (e - 1) 0 ≠ 125 then none
  else if firstF d b e ≤ b ∨ d.getD (firstF d b e - 1) 0 ≠ 123 ∨ ¬ (0 < lastF d b e - firstF d b e ∧ lastF d b e - firstF d b e ≤ 10) then none
  else some (num (piece d (firstF d b e) (lastF d b e)), waitsF d b e)

/-- what command_end gives back -/
inductive CmdEnd (d : List UInt8) : Nat → Int × Option (Int × Bool) → Prop where
  | none {at_ : Nat} : seekL (d.drop at_) = none → CmdEnd d at_ (-1, none)
  | line {at_ k : Nat} : seekL (d.drop at_) = some k → headF d at_ (at_ + k) = none → CmdEnd d at_ (((at_ + k + 2 : Nat) : Int), none)
  | waits {at_ k : Nat} {h : Int × Bool} : seekL (d.drop at_) = some k → headF d at_ (at_ + k) = some h → at_ + k + 2 = d.length → CmdEnd d at_ (-1, some h)
  | short {at_ k : Nat} {h : Int × Bool} : seekL (d.drop at_) = some k → headF d at_ (at_ + k) = some h → at_ + k + 2 ≠ d.length → ((at_ + k + 2 : Nat) : Int) + h.1 > (d.length : Int) → CmdEnd d at_ (-1, none)
  | more {at_ k n : Nat} {h : Int × Bool} {r : Int × Option (Int × Bool)} : seekL (d.drop at_) = some k → headF d at_ (at_ + k) = some h → at_ + k + 2 ≠ d.length → ((at_ + k + 2 : Nat) : Int) + h.1 = (n : Int) → n ≤ d.length → CmdEnd d n r → CmdEnd d at_ r

/-- what literal_wanted gives back, from a place on -/
inductive Wanted (d : List UInt8) : Nat → Option (Int × Bool) → Prop where
  | stop {at_ : Nat} {h : Option (Int × Bool)} {k : Int} : CmdEnd d at_ (k, h) → k < 0 → Wanted d at_ h
  | next {at_ k : Nat} {h g : Option (Int × Bool)} : CmdEnd d at_ ((k : Int), g) → Wanted d k h → Wanted d at_ h

end Mine

/-! con -/
namespace Mine
open PySem PySem.W PySem.Calls PyProof.Rows PySem.Spec
set_option maxRecDepth 100000
set_option maxHeartbeats 8000000

/-- what a def answers, over any caller's frame: the ledger grows by tl, of which R speaks -/
def Con (k : Nat) (w : World) (f : Addr) (vs : List Value) (news : List (Addr × Obj)) (R : List (Addr × Obj) → Value → Prop) : Prop :=
  ∀ (mean : ExcName → Option Value) (mg mb : PySem.Str → Option Value) (dp un : Nat) (gd : Option (List Code)) (cn : PySem.Str) (cs : Scope) (a : Addr) (ccd : Value) (cl : List (PySem.Str × Addr)) (outer : List Env) (A₀ : Around) (base h₀ : Heap) (L : Addr) (m : PySem.Str → Option Value) (s : Shared) (Q E : Value → Shared → Prop),
    Below A₀ base outer h₀ → Fr h₀ L s.heap m → (hd.heap_39 w.params).In h₀ → News h₀ L s.heap news → Top hd.view_39 (looseW hd.view_39 []) mean mg mb h₀ → cs.kind = .function →
    dp + k < recursionLimit → un + 8 * k + 8 < cLine →
    (∀ tl r h' tk', R tl r → Fr h₀ L h' m → News h₀ L h' (tl ++ news) → Q r { s with heap := h', toks := tk' }) →
    wpAny (model PySem.Challenge.rw_or0018_01.row.prog w) (ktrTop dp un gd cn cs L a ccd cl outer) (call (.ref f) vs) Q E s

theorem Con.use {k : Nat} {w : World} {f : Addr} {vs : List Value} {news : List (Addr × Obj)} {R : List (Addr × Obj) → Value → Prop} (C : Con k w f vs news R)
    {mean : ExcName → Option Value} {mg mb : PySem.Str → Option Value} {dp un : Nat} {gd : Option (List Code)} {cn : PySem.Str} {cs : Scope} {a : Addr} {ccd : Value} {cl : List (PySem.Str × Addr)} {outer : List Env} {A₀ : Around} {base h₀ : Heap} {L : Addr} {m : PySem.Str → Option Value} {s : Shared} {Q E : Value → Shared → Prop}
    (B : Below A₀ base outer h₀) (F : Fr h₀ L s.heap m) (X : (hd.heap_39 w.params).In h₀) (N : News h₀ L s.heap news) (T : Top hd.view_39 (looseW hd.view_39 []) mean mg mb h₀) (hk : cs.kind = .function)
    (hd : dp + k < recursionLimit) (hu : un + 8 * k + 8 < cLine)
    (ret : ∀ tl r h' tk', R tl r → Fr h₀ L h' m → News h₀ L h' (tl ++ news) → Q r { s with heap := h', toks := tk' }) :
    wpAny (model PySem.Challenge.rw_or0018_01.row.prog w) (ktrTop dp un gd cn cs L a ccd cl outer) (call (.ref f) vs) Q E s :=
  C mean mg mb dp un gd cn cs a ccd cl outer A₀ base h₀ L m s Q E B F X N T hk hd hu ret

/-- the walk halts here -/
def Stop (P : Prop) : Prop := P
theorem Stop.go {P : Prop} (h : Stop P) : P := h

theorem frTwice {g h : Heap} {L : Addr} {x : PySem.Str} {a b : Option Value} {m : PySem.Str → Option Value} (F : Fr g L h (fun y => if y = x then a else if y = x then b else m y)) : Fr g L h (fun y => if y = x then a else m y) := by
  have e : (fun y => if y = x then a else if y = x then b else m y) = fun y => if y = x then a else m y := by
    funext y
    by_cases h : y = x
    · rw [if_pos h, if_pos h]
    · rw [if_neg h, if_neg h, if_neg h]
  rw [e] at F
  exact F
theorem frSame {g h : Heap} {L : Addr} {x : PySem.Str} {a : Option Value} {m : PySem.Str → Option Value} (hx : m x = a) (F : Fr g L h m) : Fr g L h (fun y => if y = x then a else m y) := by
  have e : (fun y => if y = x then a else m y) = m := by
    funext y
    by_cases h : y = x
    · rw [if_pos h, h, hx]
    · rw [if_neg h]
  rw [e]
  exact F

/-- a while whose turn changes one int -/
def OneTurn (g : Heap) (L : Addr) (s : Shared) (m : PySem.Str → Option Value) (news : List (Addr × Obj)) (x : PySem.Str) (P : Int → Prop) (μ : Int → Nat) (n : Int) (f : Flow) (s' : Shared) : Prop :=
  f = .next ∧ ∃ n' t' h' tk', s' = { s with heap := h', toks := tk' } ∧ Fr g L h' (fun y => if y = x then some (.int n' t') else m y) ∧ News g L h' news ∧ P n' ∧ μ n' < μ n
def OneExit (g : Heap) (L : Addr) (s : Shared) (m : PySem.Str → Option Value) (news : List (Addr × Obj)) (x : PySem.Str) (z : Int) (s' : Shared) : Prop :=
  ∃ t' h' tk', s' = { s with heap := h', toks := tk' } ∧ Fr g L h' (fun y => if y = x then some (.int z t') else m y) ∧ News g L h' news
theorem OneTurn.intro {g h' : Heap} {L : Addr} {s : Shared} {m : PySem.Str → Option Value} {news : List (Addr × Obj)} {x : PySem.Str} {P : Int → Prop} {μ : Int → Nat} {n n' : Int} {t' : Tok} {tk' : Nat} {b : Option Value}
    (F : Fr g L h' (fun y => if y = x then some (.int n' t') else if y = x then b else m y)) (N : News g L h' news) (hp : P n') (hm : μ n' < μ n) : OneTurn g L s m news x P μ n .next { s with heap := h', toks := tk' } :=
  ⟨rfl, n', t', h', tk', rfl, frTwice F, N, hp, hm⟩
theorem OneExit.intro {g h' : Heap} {L : Addr} {s : Shared} {m : PySem.Str → Option Value} {news : List (Addr × Obj)} {x : PySem.Str} {n z : Int} {t' : Tok} {tk' : Nat}
    (F : Fr g L h' (fun y => if y = x then some (.int n t') else m y)) (N : News g L h' news) (e : n = z) : OneExit g L s m news x z { s with heap := h', toks := tk' } :=
  ⟨t', h', tk', rfl, e ▸ F, N⟩
theorem while_one {prog : Program} {w : World} {A : Around} {E : Value → Shared → Prop} {Q : Flow → Shared → Prop} {s : Shared} {env : Env} {g : Heap} {L : Addr} {test : PySem.Expr} {body : List Stmt} {pos : Pos} {m : PySem.Str → Option Value} {news : List (Addr × Obj)}
    (x : PySem.Str) (P : Int → Prop) (μ : Int → Nat) (z : Int) {v₀ : Int} {t₀ : Tok} (F : Fr g L s.heap m) (N : News g L s.heap news) (hx : m x = some (.int v₀ t₀)) (hp : P v₀)
    (turn : ∀ n tn h tk, P n → Fr g L h (fun y => if y = x then some (.int n tn) else m y) → News g L h news →
      wpAny (model prog w) A (isTrue test env (eval test env)) (fun b s₂ =>
        if b = true then wpAny (model prog w) A (execs body env) (OneTurn g L s m news x P μ n) E s₂ else OneExit g L s m news x z s₂) E { s with heap := h, toks := tk })
    (done : ∀ t' h' tk', Fr g L h' (fun y => if y = x then some (.int z t') else m y) → News g L h' news → Q .next { s with heap := h', toks := tk' })
    (hE : PassesOwn (model prog w) A env E := by passes_own) :
    wpAny (model prog w) A (exec (.While test body [] pos) env) Q E s := by
  refine While_inv2 (fun k m' nx => nx = news ∧ ∃ n tn, m' = (fun y => if y = x then some (.int n tn) else m y) ∧ P n ∧ μ n = k) (frSame hx F) N ⟨rfl, v₀, t₀, rfl, hp, rfl⟩ ?_ hE
  rintro k m' nx h tk F' N' ⟨rfl, n, tn, rfl, hp', rfl⟩
  refine wpAny_mono (turn n tn h tk hp' F' N') (fun b s₂ q => ?_) fun _ _ y => y
  cases b with
  | false =>
    simp only [Bool.false_eq_true, if_false] at q ⊢
    obtain ⟨t', h', tk', rfl, F2, N2⟩ := q
    exact done t' h' tk' F2 N2
  | true =>
    simp only [if_true] at q ⊢
    refine wpAny_mono q (fun f s₃ r => ?_) fun _ _ y => y
    obtain ⟨rfl, n', t', h', tk', rfl, F2, N2, hp2, hm⟩ := r
    exact ⟨h', tk', _, nx, μ n', rfl, F2, N2, hm, rfl, n', t', rfl, hp2, rfl⟩

def tup (vs : List Value) : Obj := { cls := .type "tuple", data := .seq vs.toArray }
/-- how a ledger bears what literal_head gives back -/
inductive HeadIn : List (Addr × Obj) → Value → Option (Int × Bool) → Prop where
  | none : HeadIn [] .none none
  | some (q : Addr) (n : Int) (t : Tok) (b : Bool) : HeadIn [(q, tup [.int n t, .bool b])] (.ref q) (some (n, b))
end Mine

/-! num -/
namespace Mine
open PySem PySem.W PySem.Calls PyProof.Rows PySem.Spec
set_option maxRecDepth 100000
set_option maxHeartbeats 8000000

def numI (ks : List Int) : Int := ks.foldl (fun a c => a * 10 + c - 48) 0
theorem numI_snoc (ks : List Int) (c : Int) : numI (ks ++ [c]) = numI ks * 10 + c - 48 := by
  unfold numI
  rw [List.foldl_append]
  rfl
theorem numI_of (x : List UInt8) : numI (KBw.bInts x.toArray) = num x := by
  unfold numI num
  rw [KBw.ints_list, List.foldl_map]
def Bnd (v : Int) : Prop := -1000000000000 ≤ v ∧ v ≤ 1000000000000
theorem numI_bound : ∀ (n : Nat) (ks : List Int), ks.length = n → (∀ k ∈ ks, 0 ≤ k ∧ k < 256) → -(23 * (10 : Int) ^ n) + 23 ≤ numI ks ∧ numI ks + 23 ≤ 23 * (10 : Int) ^ n := by
  intro n
  induction n with
  | zero =>
    intro ks h _
    have e : ks = [] := List.length_eq_zero_iff.mp h
    subst e
    decide
  | succ n ih =>
    intro ks h hb
    rcases List.eq_nil_or_concat ks with e | ⟨r, c, e⟩
    · subst e; cases h
    · rw [List.concat_eq_append] at e
      subst e
      have hl : r.length = n := by simpa using h
      have h1 := ih r hl fun k hk => hb k (List.mem_append_left _ hk)
      have h2 := hb c (List.mem_append_right _ (List.mem_singleton.mpr rfl))
      rw [numI_snoc, Int.pow_succ]
      omega
theorem pow_le {n : Nat} (h : n ≤ 10) : (10 : Int) ^ n ≤ 10000000000 := by
  have : n = 0 ∨ n = 1 ∨ n = 2 ∨ n = 3 ∨ n = 4 ∨ n = 5 ∨ n = 6 ∨ n = 7 ∨ n = 8 ∨ n = 9 ∨ n = 10 := by omega
  rcases this with e | e | e | e | e | e | e | e | e | e | e <;> subst e <;> decide
theorem numI_bnd {ks : List Int} (h : ks.length ≤ 10) (hb : ∀ k ∈ ks, 0 ≤ k ∧ k < 256) : -1000000000000 ≤ numI ks ∧ numI ks ≤ 1000000000000 := by
  have h1 := numI_bound _ ks rfl hb
  have h2 := pow_le h
  omega
theorem num_turn {x : List UInt8} {pre post : List Int} {c v : Int} (hx : x.length ≤ 10) (e : KBw.bInts x.toArray = pre ++ c :: post) (h : v = numI pre) :
    v * 10 + c - 48 = numI (pre ++ [c]) ∧ -1000000000000 ≤ v * 10 + c - 48 ∧ v * 10 + c - 48 ≤ 1000000000000 := by
  subst h
  rw [← numI_snoc]
  refine ⟨rfl, ?_⟩
  have hl := congrArg List.length e
  rw [KBw.ints_length, List.length_append, List.length_cons, List.size_toArray] at hl
  refine numI_bnd (by rw [List.length_append, List.length_singleton]; omega) fun k hk => KBw.ints_in (b := x.toArray) ?_
  rw [e]
  rcases List.mem_append.mp hk with h | h
  · exact List.mem_append_left _ h
  · rw [List.mem_singleton.mp h]; exact List.mem_append_right _ (.head _)

theorem num_end {x : List UInt8} {h₀ h : Heap} {L : Addr} {m : PySem.Str → Option Value} {news : List (Addr × Obj)} {s : Shared} {Q : Value → Shared → Prop} {v : Int} {t : Tok} {tk : Nat}
    (hret : ∀ tl r h' tk', (tl = [] ∧ ∃ u, r = Value.int (num x) u) → Fr h₀ L h' m → News h₀ L h' (tl ++ news) → Q r { s with heap := h', toks := tk' })
    (e : v = numI (x.map fun c => (c.toNat : Int))) (F : Fr h₀ L h m) (N : News h₀ L h news) : Q (.int v t) { s with heap := h, toks := tk } := by
  rw [← KBw.ints_list, numI_of] at e
  subst e
  exact hret [] _ _ _ ⟨rfl, t, rfl⟩ F N
theorem con_num (w : World) (x : List UInt8) (hx : x.length ≤ 10) (t : Tok) (news : List (Addr × Obj)) : Con 1 w 28 [.bytes x.toArray t] news (fun tl r => tl = [] ∧ ∃ u, r = .int (num x) u) := by
  unfold Con
  k_fill
  intro mean mg mb dp un gd cn cs a ccd cl outer A₀ base h₀ L m s Q E B F X N T hk hdp hun hret
  refine wpAny_call ?_
  k_dflt cell_enter
  k_with "pyIter bytes" => k_state (fun pre n => n = numI pre ∧ -1000000000000 ≤ n ∧ n ≤ 1000000000000) "number"
  k_with "state" => first | (exact ⟨rfl, by decide, by decide⟩) | (exact num_turn hx (by assumption) (by assumption))
  k_steps
  exact num_end hret (by assumption) (by assumption) (by assumption)
end Mine

/-! fig -/
namespace Mine
open PySem PySem.W PySem.Calls PyProof.Rows PySem.Spec
set_option maxRecDepth 100000
set_option maxHeartbeats 8000000

theorem con_fig (w : World) (c : Int) (t : Tok) (news : List (Addr × Obj)) : Con 1 w 21 [.int c t] news (fun tl r => tl = [] ∧ r = .bool (decide (48 ≤ c ∧ c ≤ 57))) := by
  unfold Con
  k_fill
  intro mean mg mb dp un gd cn cs a ccd cl outer A₀ base h₀ L m s Q E B F X N T hk hdp hun hret
  refine wpAny_call ?_
  k_dflt cell_enter
  rename Fr _ _ _ _ => F1
  change Fr _ _ _ (fun y => List.lookup y [(PySem.Str.ofString "code", Value.int c t)]) at F1
  k_steps
  · refine hret [] _ _ _ ⟨rfl, congrArg Value.bool ?_⟩ (by assumption) (by assumption)
    exact decide_eq_decide.mpr (by omega)
  · refine hret [] _ _ _ ⟨rfl, congrArg Value.bool ?_⟩ (by assumption) (by assumption)
    exact decide_eq_decide.mpr (by omega)
end Mine

/-! cut -/
namespace Mine
open PySem PySem.W PySem.Calls PyProof.Rows PySem.Spec PySem.Builtin
set_option maxRecDepth 100000
set_option maxHeartbeats 8000000

section
variable {prog : Program} {w : World} {A : Around} {E : Value → Shared → Prop} {s : Shared} {value slice : PySem.Expr} {d : List UInt8} {t : Tok} {h₀ : Heap} {L : Addr} {m : PySem.Str → Option Value} {news : List (Addr × Obj)} {l u : Value} {i j : Int} {Q : Value → Shared → Prop}
theorem picked_between (h0 : 0 ≤ i) (h1 : i ≤ j) (h2 : j ≤ d.length) : KBy.picked d.toArray (some i) (some j) = (piece d i.toNat j.toNat).toArray := by
  rw [KBc.picked_eq]
  simp only [Option.elim, List.size_toArray]
  rw [clipAt_in h0 (by omega), clipAt_in (by omega) h2]
  rfl
theorem picked_upto (h0 : 0 ≤ j) (h2 : j ≤ d.length) : KBy.picked d.toArray none (some j) = (d.take j.toNat).toArray := by
  rw [KBc.picked_eq]
  simp only [Option.elim, List.size_toArray]
  rw [clipAt_in h0 h2]
  simp
theorem between_K (hF : Fr h₀ L s.heap m) (hN : News h₀ L s.heap news) (hz : d.length ≤ 16777216) {ti tj : Tok} (h0 : 0 ≤ i) (h1 : i ≤ j) (h2 : j ≤ d.length)
    (h : ∀ h' t' k, Fr h₀ L h' m → News h₀ L h' news → Q (.bytes (piece d i.toNat j.toNat).toArray t') { s with heap := h', toks := k })
    (hs : subscripted slice false (.bytes d.toArray t) (.ref s.heap.objs.size) = operate [.ref s.heap.objs.size, .bytes d.toArray t] (getItem (.bytes d.toArray t) (.ref s.heap.objs.size)) := by with_unfolding_all rfl)
    (ht : ∀ r, letTemporaryGo value (.bytes d.toArray t) r = pure () := by intro _; with_unfolding_all rfl) :
    wpAny (model prog w) A (subscriptTail value slice (.bytes d.toArray t) (.ref s.heap.objs.size)) Q E { s with heap := s.heap.push { cls := .type "slice", data := .fields #[.int i ti, .int j tj, .none] } } :=
  KBc.slice_K hF hN rfl (.int i ti) (.int j tj) (by rw [KBw.ints_length, List.size_toArray]; exact hz) (fun h' t' k F' N' _ => by
    rw [picked_between h0 h1 h2]
    exact h h' t' k F' N') hs ht
theorem upto_K (hF : Fr h₀ L s.heap m) (hN : News h₀ L s.heap news) (hz : d.length ≤ 16777216) {tj : Tok} (h0 : 0 ≤ j) (h2 : j ≤ d.length)
    (h : ∀ h' t' k, Fr h₀ L h' m → News h₀ L h' news → Q (.bytes (d.take j.toNat).toArray t') { s with heap := h', toks := k })
    (hs : subscripted slice false (.bytes d.toArray t) (.ref s.heap.objs.size) = operate [.ref s.heap.objs.size, .bytes d.toArray t] (getItem (.bytes d.toArray t) (.ref s.heap.objs.size)) := by with_unfolding_all rfl)
    (ht : ∀ r, letTemporaryGo value (.bytes d.toArray t) r = pure () := by intro _; with_unfolding_all rfl) :
    wpAny (model prog w) A (subscriptTail value slice (.bytes d.toArray t) (.ref s.heap.objs.size)) Q E { s with heap := s.heap.push { cls := .type "slice", data := .fields #[.none, .int j tj, .none] } } :=
  KBc.slice_K hF hN rfl .none (.int j tj) (by rw [KBw.ints_length, List.size_toArray]; exact hz) (fun h' t' k F' N' _ => by
    rw [picked_upto h0 h2]
    exact h h' t' k F' N') hs ht
theorem between_N (hF : Fr h₀ L s.heap m) (hN : News h₀ L s.heap news) (hz : d.length ≤ 16777216) (lo hi : Nat) {ti tj : Tok} (ei : i = (lo : Int)) (ej : j = (hi : Int)) (h1 : lo ≤ hi) (h2 : hi ≤ d.length)
    (h : ∀ h' t' k, Fr h₀ L h' m → News h₀ L h' news → Q (.bytes (piece d lo hi).toArray t') { s with heap := h', toks := k })
    (hs : subscripted slice false (.bytes d.toArray t) (.ref s.heap.objs.size) = operate [.ref s.heap.objs.size, .bytes d.toArray t] (getItem (.bytes d.toArray t) (.ref s.heap.objs.size)) := by with_unfolding_all rfl)
    (ht : ∀ r, letTemporaryGo value (.bytes d.toArray t) r = pure () := by intro _; with_unfolding_all rfl) :
    wpAny (model prog w) A (subscriptTail value slice (.bytes d.toArray t) (.ref s.heap.objs.size)) Q E { s with heap := s.heap.push { cls := .type "slice", data := .fields #[.int i ti, .int j tj, .none] } } := by
  subst ei
  subst ej
  exact between_K hF hN hz (by omega) (by omega) (by omega) (by rw [Int.toNat_natCast, Int.toNat_natCast]; exact h) hs ht
theorem len_K (hz : d.length ≤ 16777216) (h : ∀ t' k, Q (.int (d.length : Int) t') { s with toks := k }) : wpAny (model prog w) A (call (.builtin "len") [.bytes d.toArray t]) Q E s :=
  len_bytes (by rw [List.size_toArray]; omega) (by rw [List.size_toArray]; exact h _ _)
end
end Mine

/-! back -/
namespace Mine
theorem back_le (d : List UInt8) (b : Nat) : ∀ n, back d b n ≤ n
  | 0 => Nat.le_refl _
  | n + 1 => by
    unfold back
    split
    · exact Nat.le_succ_of_le (back_le d b n)
    · exact Nat.le_refl _
theorem back_ge (d : List UInt8) (b : Nat) : ∀ n, b ≤ n → b ≤ back d b n
  | 0, h => h
  | n + 1, h => by
    unfold back
    split
    · rename_i q
      exact back_ge d b n q.1
    · exact h
theorem fig_of {c : UInt8} : isFig c = true ↔ 48 ≤ ((c.toNat : Nat) : Int) ∧ ((c.toNat : Nat) : Int) ≤ 57 := by
  unfold isFig
  rw [Bool.and_eq_true, decide_eq_true_eq, decide_eq_true_eq]
  omega
theorem back_turn {d : List UInt8} {b : Nat} {n : Int} (hb : (b : Int) ≤ n) (hf : 48 ≤ (((d.getD n.toNat 0).toNat : Nat) : Int) ∧ (((d.getD n.toNat 0).toNat : Nat) : Int) ≤ 57) :
    back d b (n + 1).toNat = back d b (n - 1 + 1).toNat := by
  have e1 : (n + 1).toNat = n.toNat + 1 := by omega
  have e2 : (n - 1 + 1).toNat = n.toNat := by omega
  rw [e1, e2]
  show (if b ≤ n.toNat ∧ isFig (d.getD n.toNat 0) = true then back d b n.toNat else n.toNat + 1) = _
  rw [if_pos ⟨by omega, fig_of.mpr hf⟩]
theorem back_halt {d : List UInt8} {b : Nat} {n : Int} (h0 : 0 ≤ n) (hf : ¬ (48 ≤ (((d.getD n.toNat 0).toNat : Nat) : Int) ∧ (((d.getD n.toNat 0).toNat : Nat) : Int) ≤ 57)) :
    back d b (n + 1).toNat = (n + 1).toNat := by
  have e1 : (n + 1).toNat = n.toNat + 1 := by omega
  rw [e1]
  show (if b ≤ n.toNat ∧ isFig (d.getD n.toNat 0) = true then back d b n.toNat else n.toNat + 1) = _
  rw [if_neg fun q => hf (fig_of.mp q.2)]
theorem back_low {d : List UInt8} {b : Nat} {n : Int} (h0 : 0 ≤ n + 1) (hb : ¬ (b : Int) ≤ n) : back d b (n + 1).toNat = (n + 1).toNat := by
  cases e : (n + 1).toNat with
  | zero => rfl
  | succ k =>
    show (if b ≤ k ∧ isFig (d.getD k 0) = true then back d b k else k + 1) = _
    rw [if_neg fun q => by have := q.1; omega]
theorem byte_ne {c : UInt8} {k : Nat} (hk : k < 256) (h : ((c.toNat : Nat) : Int) ≠ (k : Int)) : c ≠ UInt8.ofNat k := by
  intro e
  apply h
  rw [e, UInt8.toNat_ofNat', Nat.mod_eq_of_lt hk]
theorem byte_eq {c : UInt8} {k : Nat} (h : ((c.toNat : Nat) : Int) = (k : Int)) : c = UInt8.ofNat k := by
  apply UInt8.toNat_inj.mp
  have := c.toNat_lt
  rw [UInt8.toNat_ofNat', Nat.mod_eq_of_lt (by omega)]
  omega
variable {d : List UInt8} {b e : Nat}
theorem way_one (h1 : ¬ (e : Int) - 1 < b) (h2 : (e : Int) - 1 - 1 < b) : decide ((e : Int) - 1 - 1 < b) = waitsF d b e ∧ waitsF d b e = true ∧ lastF d b e = e - 1 := by
  have hw : waitsF d b e = true := decide_eq_true (.inl (by omega))
  refine ⟨?_, hw, ?_⟩
  · rw [hw]; exact decide_eq_true h2
  · unfold lastF; rw [if_pos hw]
theorem way_two (h1 : ¬ (e : Int) - 1 - 1 < b) (h3 : (((d.getD ((e : Int) - 1 - 1).toNat 0).toNat : Nat) : Int) ≠ 43) :
    ((((d.getD ((e : Int) - 1 - 1).toNat 0).toNat : Nat) : Int) != 43) = waitsF d b e ∧ waitsF d b e = true ∧ lastF d b e = e - 1 := by
  have e2 : ((e : Int) - 1 - 1).toNat = e - 2 := by omega
  rw [e2] at h3 ⊢
  have hw : waitsF d b e = true := decide_eq_true (.inr (byte_ne (k := 43) (by decide) h3))
  refine ⟨?_, hw, ?_⟩
  · rw [hw]; exact bne_iff_ne.mpr h3
  · unfold lastF; rw [if_pos hw]
theorem way_three (h1 : ¬ (e : Int) - 1 - 1 < b) (h3 : (((d.getD ((e : Int) - 1 - 1).toNat 0).toNat : Nat) : Int) = 43) :
    ((((d.getD ((e : Int) - 1 - 1).toNat 0).toNat : Nat) : Int) != 43) = waitsF d b e ∧ waitsF d b e = false ∧ lastF d b e = e - 2 := by
  have e2 : ((e : Int) - 1 - 1).toNat = e - 2 := by omega
  rw [e2] at h3 ⊢
  have hw : waitsF d b e = false := decide_eq_false (by
    rintro (q | q)
    · omega
    · exact q (byte_eq (k := 43) h3))
  refine ⟨?_, hw, ?_⟩
  · rw [hw, h3]; rfl
  · unfold lastF; rw [if_neg (by rw [hw]; exact Bool.false_ne_true)]
theorem first_in (h1 : ¬ (e : Int) - 1 < b) (h2 : lastF d b e = e - 1 ∨ (lastF d b e = e - 2 ∧ ¬ (e : Int) - 1 - 1 < b)) : b ≤ firstF d b e ∧ firstF d b e ≤ lastF d b e :=
  ⟨back_ge d b _ (by omega), back_le d b _⟩
theorem head_none1 (h : (e : Int) - 1 < b) : headF d b e = none := by
  unfold headF
  rw [if_pos (.inl (by omega))]
theorem head_none2 (h1 : ¬ (e : Int) - 1 < b) (h : (((d.getD ((e : Int) - 1).toNat 0).toNat : Nat) : Int) ≠ 125) : headF d b e = none := by
  have e2 : ((e : Int) - 1).toNat = e - 1 := by omega
  rw [e2] at h
  unfold headF
  rw [if_pos (.inr (byte_ne (k := 125) (by decide) h))]
theorem head_far (h1 : ¬ (e : Int) - 1 < b) (h : (((d.getD ((e : Int) - 1).toNat 0).toNat : Nat) : Int) = 125) :
    headF d b e = if firstF d b e ≤ b ∨ d.getD (firstF d b e - 1) 0 ≠ 123 ∨ ¬ (0 < lastF d b e - firstF d b e ∧ lastF d b e - firstF d b e ≤ 10) then none else some (num (piece d (firstF d b e) (lastF d b e)), waitsF d b e) := by
  have e2 : ((e : Int) - 1).toNat = e - 1 := by omega
  rw [e2] at h
  unfold headF
  rw [if_neg]
  rintro (q | q)
  · omega
  · exact q (byte_eq (k := 125) h)
theorem open_ne {n : Nat} (h : (((d.getD ((n : Int) - 1).toNat 0).toNat : Nat) : Int) ≠ 123) : d.getD (n - 1) 0 ≠ 123 := by
  have e2 : ((n : Int) - 1).toNat = n - 1 := by omega
  rw [e2] at h
  exact byte_ne (k := 123) (by decide) h
theorem open_eq {n : Nat} (h : (((d.getD ((n : Int) - 1).toNat 0).toNat : Nat) : Int) = 123) : d.getD (n - 1) 0 = 123 := by
  have e2 : ((n : Int) - 1).toNat = n - 1 := by omega
  rw [e2] at h
  exact byte_eq (k := 123) h
theorem piece_length (h1 : b ≤ e) (h2 : e ≤ d.length) : (piece d b e).length = e - b := by
  unfold piece
  rw [List.length_take, List.length_drop]
  omega
end Mine

/-! head -/
namespace Mine
open PySem PySem.W PySem.Calls PyProof.Rows PySem.Spec
set_option maxRecDepth 100000
set_option maxHeartbeats 8000000

local macro_rules | `(tactic| walk_at "exec While") => `(tactic| (refine Stop.go ?_))
local macro_rules | `(tactic| walk_at "call ref") => `(tactic| (k_here; (with_reducible show wpAny _ _ (call (Value.ref 21) _) _ _ _); k_dflt (refine' Con.use (con_fig _ _ _ _) ?kb ?kf ?kx ?kn ?kt ?kk ?kd ?ku ?_; (case kb => k_asm); (case kf => k_asm); (case kx => k_asm); (case kn => k_asm); (case kt => k_asm); (case kk => exact rfl); (case kd => ktr_room); (case ku => ktr_units); k_whole); intro tl r h' tk' hR F' N'; obtain ⟨hR1, hR2⟩ := hR; subst hR1; subst hR2; (simp only [List.nil_append] at N')))
local macro_rules | `(tactic| walk_at "call ref") => `(tactic| (k_here; (with_reducible show wpAny _ _ (call (Value.ref 28) _) _ _ _); k_dflt (refine' Con.use (con_num _ _ (by omega) _ _) ?kb ?kf ?kx ?kn ?kt ?kk ?kd ?ku ?_; (case kb => k_asm); (case kf => k_asm); (case kx => k_asm); (case kn => k_asm); (case kt => k_asm); (case kk => exact rfl); (case kd => ktr_room); (case ku => ktr_units); k_whole); intro tl r h' tk' hR F' N'; obtain ⟨hR1, u, hR2⟩ := hR; subst hR1; subst hR2; (simp only [List.nil_append] at N')))
local macro_rules | `(tactic| walk_at "call builtin:len") => `(tactic| (k_here; (with_reducible show wpAny _ _ (call (Value.builtin "len") [Value.bytes (List.toArray _) _]) _ _ _); (refine len_K (by omega) ?_); intro t' k'))

theorem head_end {o : Option (Int × Bool)} {h₀ h : Heap} {L D : Addr} {m : PySem.Str → Option Value} {news : List (Addr × Obj)} {s : Shared} {Q : Value → Shared → Prop} {n : Int} {u : Tok} {b : Bool} {tk : Nat}
    (hret : ∀ tl r h' tk', HeadIn tl r o → Fr h₀ L h' m → News h₀ L h' (tl ++ news) → Q r { s with heap := h', toks := tk' })
    (e : o = some (n, b)) (F : Fr h₀ L h m) (N : News h₀ L h ((D, { cls := .type "tuple", data := .seq #[.int n u, .bool b] }) :: news)) : Q (.ref D) { s with heap := h, toks := tk } := by
  subst e
  exact hret [(D, tup [.int n u, .bool b])] _ _ _ (.some D n u b) F N

theorem con_head (w : World) (d : List UInt8) (b e : Nat) (hd : d.length ≤ 16777216) (hbe : b ≤ e) (he : e ≤ d.length) (t tb te : Tok) (news : List (Addr × Obj)) :
    Con 2 w 35 [.bytes d.toArray t, .int b tb, .int e te] news (fun tl r => HeadIn tl r (headF d b e)) := by
  unfold Con
  k_fill
  intro mean mg mb dp un gd cn cs a ccd cl outer A₀ base h₀ L m s Q E B F X N T hk hdp hun hret
  refine wpAny_call ?_
  k_dflt cell_enter
  rename Fr _ _ _ _ => F1
  change Fr _ _ _ (fun y => List.lookup y [(PySem.Str.ofString "end", Value.int e te), (PySem.Str.ofString "begin", Value.int b tb), (PySem.Str.ofString "data", Value.bytes d.toArray t)]) at F1
  k_steps
  · exact hret [] _ _ _ (by rw [head_none1 (by assumption)]; exact .none) (by assumption) (by assumption)
  · exact hret [] _ _ _ (by rw [head_none2 (by assumption) (by assumption)]; exact .none) (by assumption) (by assumption)
  all_goals (
    unfold Stop
    rename Fr _ _ _ _ => F1
    rename News _ _ _ _ => N1
    have hway := by first | exact way_one (d := d) (by assumption) (by assumption) | exact way_two (by assumption) (by assumption) | exact way_three (by assumption) (by assumption)
    have hfar := head_far (d := d) (b := b) (e := e) (by assumption) (by assumption)
    have hin := first_in (d := d) (b := b) (e := e) (by assumption) (by first | exact .inl hway.2.2 | exact .inr ⟨hway.2.2, by assumption⟩)
    obtain ⟨hwv, hw, hl⟩ := hway
    obtain ⟨hin1, hin2⟩ := hin
    refine while_one (PySem.Str.ofString "here") (fun n => firstF d b e = back d b (n + 1).toNat ∧ (b : Int) ≤ n + 1 ∧ n < e) (fun n => (n + 1).toNat) ((firstF d b e : Int) - 1) F1 N1 rfl ?hp ?turn ?rest
    case hp => exact ⟨congrArg (back d b) (by omega), by omega, by omega⟩
    case turn =>
      clear F1 N1
      rintro n tn h tk ⟨hP1, hP2, hP3⟩ F' N'
      k_steps
      · exact OneTurn.intro (by assumption) (by assumption) ⟨hP1.trans (back_turn (by assumption) (by assumption)), by omega, by omega⟩ (by omega)
      · exact OneExit.intro (by assumption) (by assumption) (by rw [hP1, back_halt (by omega) (by assumption)]; omega)
      · exact OneExit.intro (by assumption) (by assumption) (by rw [hP1, back_low (by omega) (by assumption)]; omega)
    case rest =>
      clear F1 N1
      intro t' h' tk' F' N'
      dsimp only
      k_steps
      rename Fr _ _ _ _ => F1
      rename News _ _ _ _ => N1
      refine between_N (s := ⟨_, _, _, _, _⟩) F1 N1 hd (firstF d b e) (lastF d b e) (by omega) (by omega) hin2 (by omega) ?_
      clear F1 N1
      intro h' t' k' F' N'
      have hlen := piece_length (d := d) (b := firstF d b e) (e := lastF d b e) (by omega) (by omega)
      generalize piece d (firstF d b e) (lastF d b e) = x at *
      k_steps
      all_goals first
        | exact hret [] _ _ _ (by rw [hfar, if_pos (.inl (by omega))]; exact .none) (by assumption) (by assumption)
        | exact hret [] _ _ _ (by rw [hfar, if_pos (.inr (.inl (open_ne (by assumption))))]; exact .none) (by assumption) (by assumption)
        | exact hret [] _ _ _ (by rw [hfar, if_pos (.inr (.inr (by omega)))]; exact .none) (by assumption) (by assumption)
        | (rw [← hwv] at hfar
           rw [if_neg (by
             rintro (q | q | q)
             · omega
             · exact q (open_eq (by assumption))
             · omega)] at hfar
           exact head_end hret hfar (by assumption) (by assumption)))
end Mine

/-! seek -/
namespace Mine
open PySem PySem.W PySem.Calls PyProof.Rows PySem.Spec PySem.Builtin
set_option maxRecDepth 100000
set_option maxHeartbeats 8000000

theorem seekL_le : ∀ {x : List UInt8} {j : Nat}, seekL x = some j → j + 2 ≤ x.length
  | [], _, h => nomatch h
  | a :: r, j, h => by
    unfold seekL at h
    split at h
    · rename_i q
      cases h
      cases r with
      | nil => cases q.2
      | cons => simp
    · cases e : seekL r with
      | none => rw [e] at h; cases h
      | some k =>
        rw [e] at h
        cases h
        have := seekL_le e
        simp only [List.length_cons]
        omega
theorem range_find (p : Nat → Bool) (x : Nat) : ∀ n, ((List.range n).map (· + x)).find? p = ((List.range n).find? fun i => p (i + x)).map (· + x) := by
  intro n
  rw [List.find?_map]
  rfl
/-- the first place from a given one on that holds CRLF -/
theorem find_seek : ∀ (x : List UInt8), ((List.range (x.length - 1)).find? fun i => (x.drop i).take 2 == [13, 10]) = seekL x
  | [] => rfl
  | a :: r => by
    unfold seekL
    cases r with
    | nil => simp [seekL]
    | cons c r' =>
      have ih := find_seek (c :: r')
      have hl : (a :: c :: r').length - 1 = ((c :: r').length - 1) + 1 := by simp
      rw [hl, List.range_succ_eq_map, List.find?_cons]
      have e0 : ((List.drop 0 (a :: c :: r')).take 2 == [13, 10]) = decide (a = 13 ∧ c = 10) := by
        simp only [List.drop_zero, List.take_succ_cons, List.take_zero]
        by_cases h : a = 13 ∧ c = 10
        · rw [decide_eq_true h, h.1, h.2]; rfl
        · rw [decide_eq_false h, beq_eq_false_iff_ne]
          intro q
          apply h
          simpa using q
      rw [e0]
      by_cases h : a = 13 ∧ c = 10
      · rw [decide_eq_true h, if_pos (by simpa using h)]
      · rw [decide_eq_false h, if_neg (by simpa using h)]
        simp only []
        rw [List.find?_map]
        have e1 : ((fun i => (List.drop i (a :: c :: r')).take 2 == [13, 10]) ∘ Nat.succ) = fun i => (List.drop i (c :: r')).take 2 == [13, 10] := by
          funext i; rfl
        rw [e1, ih]
def seekP (d : List UInt8) (i : Nat) : Int := match seekL (d.drop i) with
  | some j => ((i + j : Nat) : Int)
  | none => -1
theorem extract_eq (d : List UInt8) (i : Nat) : (d.toArray.extract i (i + 2) == #[(13 : UInt8), 10]) = ((d.drop i).take 2 == [13, 10]) := by
  have e : d.toArray.extract i (i + 2) = ((d.drop i).take 2).toArray := by
    rw [List.extract_toArray, List.extract_eq_take_drop]
    simp
  rw [e]
  show (((d.drop i).take 2).toArray == [(13 : UInt8), 10].toArray) = _
  rw [List.beq_toArray]
theorem seekI_eq (d : List UInt8) (i : Nat) (hi : i ≤ d.length) : seekI d.toArray #[13, 10] i = seekP d i := by
  unfold seekI seekP
  have hs : (#[(13 : UInt8), 10] : Array UInt8).size = 2 := rfl
  rw [hs, List.size_toArray]
  by_cases h : ((d.length : Int) - (i : Int)) < ((2 : Nat) : Int)
  · rw [if_pos h]
    have e : seekL (d.drop i) = none := by
      cases q : seekL (d.drop i) with
      | none => rfl
      | some j =>
        have := seekL_le q
        rw [List.length_drop] at this
        omega
    rw [e]
    rfl
  · rw [if_neg h]
    simp only [Option.bind_some]
    unfold Bytes.find?
    rw [hs, range_find]
    have hl : d.length + 1 - (i + 2) = (d.drop i).length - 1 := by rw [List.length_drop]; omega
    rw [hl]
    have e1 : (fun k => d.toArray.extract (k + i) (k + i + 2) == #[(13 : UInt8), 10]) = fun k => ((d.drop i).drop k).take 2 == [13, 10] := by
      funext k
      rw [extract_eq, List.drop_drop, Nat.add_comm]
    rw [e1, find_seek]
    cases seekL (d.drop i) with
    | none => rfl
    | some j => simp only [Option.map_some]; rw [Nat.add_comm]
section
variable {prog : Program} {w : World} {A : Around} {E : Value → Shared → Prop} {s : Shared}
theorem find_K {d : List UInt8} {i : Nat} {t u v : Tok} {Q : Value → Shared → Prop} (hi : i ≤ d.length)
    (h0 : seekL (d.drop i) = none → ∀ t' k, Q (.int (-1) t') { s with toks := k })
    (h1 : ∀ j, seekL (d.drop i) = some j → i + j + 2 ≤ d.length → ∀ t' k, Q (.int ((i + j : Nat) : Int) t') { s with toks := k }) :
    wpAny (model prog w) A (call (.builtin "bytes.find") [.bytes d.toArray t, .bytes #[13, 10] u, .int (i : Int) v]) Q E s := by
  refine find_any (by rw [List.size_toArray]; exact hi) fun t' k => ?_
  rw [seekI_eq d i hi]
  unfold seekP
  cases e : seekL (d.drop i) with
  | none => exact h0 e t' k
  | some j =>
    have := seekL_le e
    rw [List.length_drop] at this
    exact h1 j e (by omega) t' k
end
end Mine

/-! keep -/
namespace Mine
open PySem PySem.W PySem.Calls PyProof.Rows PySem.Spec PySem.Builtin
set_option maxRecDepth 100000
set_option maxHeartbeats 8000000

theorem back_figs (d : List UInt8) (b : Nat) : ∀ n i, back d b n ≤ i → i < n → isFig (d.getD i 0) = true
  | 0, i, _, h => absurd h (Nat.not_lt_zero _)
  | n + 1, i, h1, h2 => by
    unfold back at h1
    split at h1
    · rename_i q
      by_cases e : i = n
      · rw [e]; exact q.2
      · exact back_figs d b n i h1 (by omega)
    · omega
theorem piece_mem {d : List UInt8} {k l : Nat} {c : UInt8} (h : c ∈ piece d k l) : ∃ i, k ≤ i ∧ i < l ∧ c = d.getD i 0 := by
  unfold piece at h
  obtain ⟨i, hi, e⟩ := List.getElem_of_mem h
  rw [List.length_take, List.length_drop] at hi
  refine ⟨k + i, by omega, by omega, ?_⟩
  rw [← e, List.getElem_take, List.getElem_drop, List.getD_eq_getElem?_getD, List.getElem?_eq_getElem (by omega)]
  rfl
theorem num_from : ∀ (x : List UInt8) (a : Int), 0 ≤ a → (∀ c ∈ x, isFig c = true) → 0 ≤ x.foldl (fun a c => a * 10 + (c.toNat : Int) - 48) a
  | [], a, h, _ => h
  | c :: r, a, h, hf => by
    rw [List.foldl_cons]
    refine num_from r _ ?_ fun c' hc => hf c' (.tail _ hc)
    have := fig_of.mp (hf c (.head _))
    omega
theorem head_nonneg {d : List UInt8} {b e : Nat} {n : Int} {w : Bool} (h : headF d b e = some (n, w)) : 0 ≤ n := by
  unfold headF at h
  split at h
  · cases h
  · split at h
    · cases h
    · cases h
      refine num_from _ 0 (Int.le_refl _) fun c hc => ?_
      obtain ⟨i, h1, h2, rfl⟩ := piece_mem hc
      exact back_figs d b _ i h1 h2

theorem frKeep {g h : Heap} {L : Addr} {m : PySem.Str → Option Value} {ps : List (PySem.Str × Value)} (F : Fr g L h m) (hp : ∀ p ∈ ps, m p.1 = some p.2) : Fr g L h (kstB m ps) := by
  have e : kstB m ps = m := by
    funext y
    exact kstB_eq hp fun _ => rfl
  rw [e]
  exact F
theorem drop_news {g h : Heap} {L : Addr} {tl news : List (Addr × Obj)} (N : News g L h (tl ++ news)) : News g L h news := fun p hp => N p (List.mem_append_right _ hp)

def KeepEnd (g : Heap) (L : Addr) (s : Shared) (news : List (Addr × Obj)) (x : PySem.Str) (ks : List (PySem.Str × Value)) (P : Nat → Prop) (μ : Nat → Nat) (n : Nat) (s' : Shared) : Prop :=
  ∃ (n' : Nat) (t' : Tok) (h' : Heap) (tk' : Nat) (m' : PySem.Str → Option Value), s' = { s with heap := h', toks := tk' } ∧ Fr g L h' m' ∧ m' x = some (.int (n' : Int) t') ∧ (∀ p ∈ ks, m' p.1 = some p.2) ∧ News g L h' news ∧ P n' ∧ μ n' < μ n
def KeepTurn (g : Heap) (L : Addr) (s : Shared) (news : List (Addr × Obj)) (x : PySem.Str) (ks : List (PySem.Str × Value)) (P : Nat → Prop) (μ : Nat → Nat) (n : Nat) (Q : Flow → Shared → Prop) (f : Flow) (s' : Shared) : Prop :=
  match f with
  | .ret v => Q (.ret v) s'
  | .brk => Q .next s'
  | _ => KeepEnd g L s news x ks P μ n s'
theorem KeepEnd.intro {g h' : Heap} {L : Addr} {s : Shared} {news news' : List (Addr × Obj)} {x : PySem.Str} {ks : List (PySem.Str × Value)} {P : Nat → Prop} {μ : Nat → Nat} {n n' : Nat} {i : Int} {t' : Tok} {tk' : Nat} {m' : PySem.Str → Option Value}
    (F : Fr g L h' m') (N : News g L h' news') (hx : m' x = some (.int i t')) (hi : i = (n' : Int)) (hk : ∀ p ∈ ks, m' p.1 = some p.2) (hn : ∀ p ∈ news, p ∈ news') (hp : P n') (hm : μ n' < μ n) : KeepEnd g L s news x ks P μ n { s with heap := h', toks := tk' } :=
  ⟨n', t', h', tk', m', rfl, F, hi ▸ hx, hk, fun p hp => N p (hn p hp), hp, hm⟩
theorem while_keep {prog : Program} {w : World} {A : Around} {E : Value → Shared → Prop} {Q : Flow → Shared → Prop} {s : Shared} {env : Env} {g : Heap} {L : Addr} {test : PySem.Expr} {body : List Stmt} {pos : Pos} {m : PySem.Str → Option Value} {news : List (Addr × Obj)}
    (x : PySem.Str) (ks : List (PySem.Str × Value)) (P : Nat → Prop) (μ : Nat → Nat) {v₀ : Nat} {t₀ : Tok} (F : Fr g L s.heap m) (N : News g L s.heap news) (hx : m x = some (.int (v₀ : Int) t₀)) (hk : ∀ p ∈ ks, m p.1 = some p.2) (hp : P v₀)
    (turn : ∀ (n : Nat) tn u h tk, P n → Fr g L h (kstB u ((x, .int (n : Int) tn) :: ks)) → News g L h news →
      wpAny (model prog w) A (isTrue test env (eval test env)) (fun b s₂ =>
        if b = true then wpAny (model prog w) A (execs body env) (KeepTurn g L s news x ks P μ n Q) E s₂ else Q .next s₂) E { s with heap := h, toks := tk })
    (hE : PassesOwn (model prog w) A env E := by passes_own) :
    wpAny (model prog w) A (exec (.While test body [] pos) env) Q E s := by
  refine While_inv2 (fun k m' nx => nx = news ∧ ∃ n tn, m' x = some (.int ((n : Nat) : Int) tn) ∧ (∀ p ∈ ks, m' p.1 = some p.2) ∧ P n ∧ μ n = k) F N ⟨rfl, v₀, t₀, hx, hk, hp, rfl⟩ ?_ hE
  rintro k m' nx h tk F' N' ⟨rfl, n, tn, hx', hk', hp', rfl⟩
  refine wpAny_mono (turn n tn m' h tk hp' (frKeep F' (List.forall_mem_cons.mpr ⟨hx', hk'⟩)) N') (fun b s₂ q => ?_) fun _ _ y => y
  cases b with
  | false => simpa using q
  | true =>
    simp only [if_true] at q ⊢
    refine wpAny_mono q (fun f s₃ r => ?_) fun _ _ y => y
    cases f with
    | ret v => exact r
    | brk => exact r
    | next =>
      obtain ⟨n', t', h', tk', m₂, rfl, F2, hx2, hk2, N2, hp2, hm⟩ := r
      exact ⟨h', tk', m₂, nx, μ n', rfl, F2, N2, hm, rfl, n', t', hx2, hk2, hp2, rfl⟩
    | cont =>
      obtain ⟨n', t', h', tk', m₂, rfl, F2, hx2, hk2, N2, hp2, hm⟩ := r
      exact ⟨h', tk', m₂, nx, μ n', rfl, F2, N2, hm, rfl, n', t', hx2, hk2, hp2, rfl⟩

/-- how a ledger bears what command_end gives back -/
inductive CmdIn : List (Addr × Obj) → Value → Int × Option (Int × Bool) → Prop where
  | none (q : Addr) (k : Int) (t : Tok) : CmdIn [(q, tup [.int k t, .none])] (.ref q) (k, none)
  | some (q p : Addr) (k : Int) (t : Tok) (n : Int) (u : Tok) (b : Bool) : CmdIn [(q, tup [.int k t, .ref p]), (p, tup [.int n u, .bool b])] (.ref q) (k, some (n, b))
end Mine

/-! cmd -/
namespace Mine
open PySem PySem.W PySem.Calls PyProof.Rows PySem.Spec
set_option maxRecDepth 100000
set_option maxHeartbeats 8000000

local macro_rules | `(tactic| walk_at "exec While") => `(tactic| (refine Stop.go ?_))
local macro_rules | `(tactic| walk_at "KeepTurn") => `(tactic| (dsimp only [KeepTurn]))
local macro_rules | `(tactic| walk_at "getMethod bytes") => `(tactic| (k_here; (with_reducible refine find_method ?_)))
local macro_rules | `(tactic| walk_at "call builtin:bytes.find") => `(tactic| (k_here; k_dflt (refine' find_K (by assumption) (fun hs t' k' => ?_) (fun j hs hj t' k' => ?_))))
local macro_rules | `(tactic| walk_at "call builtin:len") => `(tactic| (k_here; (with_reducible show wpAny _ _ (call (Value.builtin "len") [Value.bytes (List.toArray _) _]) _ _ _); (refine len_K (by omega) ?_); intro t' k'))
local macro_rules | `(tactic| walk_at "call ref") => `(tactic| (k_here; (with_reducible show wpAny _ _ (call (Value.ref 35) _) _ _ _); k_dflt (refine' Con.use (con_head _ _ _ _ (by assumption) (by omega) (by omega) _ _ _ _) ?kb ?kf ?kx ?kn ?kt ?kk ?kd ?ku ?_; (case kb => k_asm); (case kf => k_asm); (case kx => k_asm); (case kn => k_asm); (case kt => k_asm); (case kk => exact rfl); (case kd => ktr_room); (case ku => ktr_units); k_whole); intro tl r h' tk' hR F' N'; (generalize ho : headF _ _ _ = o at hR); cases hR <;> (simp only [tup, List.nil_append, List.cons_append] at N')))

section
variable {d : List UInt8} {at_ n j : Nat} {n0 : Int} {b : Bool}
theorem cmd_line (hs : seekL (d.drop n) = some j) (ho : headF d n (n + j) = none) : CmdEnd d n (((n + j : Nat) : Int) + 2, none) := by
  have c := CmdEnd.line hs ho
  have e : ((n + j + 2 : Nat) : Int) = ((n + j : Nat) : Int) + 2 := by omega
  rw [e] at c
  exact c
theorem cmd_waits (hs : seekL (d.drop n) = some j) (ho : headF d n (n + j) = some (n0, b)) (h : ((n + j : Nat) : Int) + 2 = d.length) : CmdEnd d n (-1, some (n0, b)) := .waits hs ho (by omega)
theorem cmd_short (hs : seekL (d.drop n) = some j) (ho : headF d n (n + j) = some (n0, b)) (h1 : ((n + j : Nat) : Int) + 2 ≠ d.length) (h2 : (d.length : Int) < ((n + j : Nat) : Int) + 2 + n0) : CmdEnd d n (-1, none) :=
  .short hs ho (by omega) (by show ((n + j + 2 : Nat) : Int) + n0 > _; omega)
theorem cmd_more (hs : seekL (d.drop n) = some j) (ho : headF d n (n + j) = some (n0, b)) (h1 : ((n + j : Nat) : Int) + 2 ≠ d.length) (h2 : ¬ (d.length : Int) < ((n + j : Nat) : Int) + 2 + n0) :
    ∃ n' : Nat, ((n + j : Nat) : Int) + 2 + n0 = (n' : Int) ∧ n' ≤ d.length ∧ n < n' ∧ ∀ r, CmdEnd d n' r → CmdEnd d n r := by
  have h0 := head_nonneg ho
  refine ⟨(((n + j : Nat) : Int) + 2 + n0).toNat, by omega, by omega, by omega, fun r c => ?_⟩
  exact .more hs ho (by omega) (by show ((n + j + 2 : Nat) : Int) + n0 = _; omega) (by omega) c
variable {h₀ h : Heap} {L D q : Addr} {m : PySem.Str → Option Value} {news mid : List (Addr × Obj)} {s : Shared} {Q : Value → Shared → Prop} {k : Int} {t u : Tok} {tk : Nat}
theorem cmd_ret0 (hret : ∀ tl r h' tk', (∃ a, CmdEnd d at_ a ∧ CmdIn tl r a) → Fr h₀ L h' m → News h₀ L h' (tl ++ news) → Q r { s with heap := h', toks := tk' })
    (c : CmdEnd d at_ (k, none)) (F : Fr h₀ L h m) (N : News h₀ L h ((D, { cls := .type "tuple", data := .seq #[.int k t, .none] }) :: (mid ++ news))) : Q (.ref D) { s with heap := h, toks := tk } :=
  hret [(D, tup [.int k t, .none])] _ _ _ ⟨_, c, .none D k t⟩ F fun p hp => N p (by
    rcases List.mem_cons.mp hp with e | e
    · rw [e]; exact .head _
    · exact .tail _ (List.mem_append_right _ e))
theorem cmd_ret1 (hret : ∀ tl r h' tk', (∃ a, CmdEnd d at_ a ∧ CmdIn tl r a) → Fr h₀ L h' m → News h₀ L h' (tl ++ news) → Q r { s with heap := h', toks := tk' })
    (c : CmdEnd d at_ (k, some (n0, b))) (F : Fr h₀ L h m) (N : News h₀ L h ((D, { cls := .type "tuple", data := .seq #[.int k t, .ref q] }) :: (q, { cls := .type "tuple", data := .seq #[.int n0 u, .bool b] }) :: news)) : Q (.ref D) { s with heap := h, toks := tk } :=
  hret [(D, tup [.int k t, .ref q]), (q, tup [.int n0 u, .bool b])] _ _ _ ⟨_, c, .some D q k t n0 u b⟩ F N
end

theorem con_cmd (w : World) (d : List UInt8) (at_ : Nat) (hd : d.length ≤ 16777216) (ha : at_ ≤ d.length) (t ta : Tok) (news : List (Addr × Obj)) :
    Con 3 w 42 [.bytes d.toArray t, .int at_ ta] news (fun tl r => ∃ a, CmdEnd d at_ a ∧ CmdIn tl r a) := by
  unfold Con
  k_fill
  intro mean mg mb dp un gd cn cs a ccd cl outer A₀ base h₀ L m s Q E B F X N T hk hdp hun hret
  refine wpAny_call ?_
  k_dflt cell_enter
  rename Fr _ _ _ _ => F1
  change Fr _ _ _ (fun y => List.lookup y [(PySem.Str.ofString "at", Value.int at_ ta), (PySem.Str.ofString "data", Value.bytes d.toArray t)]) at F1
  k_steps
  unfold Stop
  rename Fr _ _ _ _ => F1
  rename News _ _ _ _ => N1
  refine while_keep (PySem.Str.ofString "here") [(PySem.Str.ofString "data", Value.bytes d.toArray t)] (fun n => n ≤ d.length ∧ ∀ r, CmdEnd d n r → CmdEnd d at_ r) (fun n => d.length + 2 - n) F1 N1 rfl (by kst_all) ⟨ha, fun _ h => h⟩ ?_
  clear F1 N1
  rintro n tn u h tk ⟨hn, hback⟩ F' N'
  k_steps
  · exact cmd_ret0 (mid := []) hret (hback _ (.none (by assumption))) (by assumption) (by assumption)
  · exact cmd_ret0 (mid := []) hret (hback _ (cmd_line (by assumption) (by assumption))) (by assumption) (by assumption)
  · exact cmd_ret1 hret (hback _ (cmd_waits (by assumption) (by assumption) (by assumption))) (by assumption) (by assumption)
  · exact cmd_ret0 (mid := [_]) hret (hback _ (cmd_short (by assumption) (by assumption) (by assumption) (by assumption))) (by assumption) (by assumption)
  · obtain ⟨n', e1, e2, e3, e4⟩ := cmd_more (by assumption) (by assumption) (by assumption) (by assumption)
    exact KeepEnd.intro (by assumption) (by assumption) rfl e1 (by kst_all) (fun p hp => .tail _ hp) ⟨e2, fun r c => hback r (e4 r c)⟩ (by omega)
end Mine

/-! want -/
namespace Mine
open PySem PySem.W PySem.Calls PyProof.Rows PySem.Spec
set_option maxRecDepth 100000
set_option maxHeartbeats 8000000

def TwoTurn (g : Heap) (L : Addr) (s : Shared) (news : List (Addr × Obj)) (x y : PySem.Str) (ks : List (PySem.Str × Value)) (P : Nat → Prop) (μ : Nat → Nat) (R : List (Addr × Obj) → Value → Prop) (n : Nat) (f : Flow) (s' : Shared) : Prop :=
  f = .next ∧ ∃ (h' : Heap) (tk' : Nat) (m' : PySem.Str → Option Value), s' = { s with heap := h', toks := tk' } ∧ Fr g L h' m' ∧ (∀ p ∈ ks, m' p.1 = some p.2) ∧
    ((∃ (n' : Nat) (t' : Tok), m' x = some (.int (n' : Int) t') ∧ News g L h' news ∧ P n' ∧ μ n' < μ n) ∨
     (∃ (z : Int) (t' : Tok) (hv : Value) (tl : List (Addr × Obj)), m' x = some (.int z t') ∧ z < 0 ∧ m' y = some hv ∧ R tl hv ∧ News g L h' (tl ++ news)))
theorem while_two {prog : Program} {w : World} {A : Around} {E : Value → Shared → Prop} {Q : Flow → Shared → Prop} {s : Shared} {env : Env} {g : Heap} {L : Addr} {test : PySem.Expr} {body : List Stmt} {pos : Pos} {m : PySem.Str → Option Value} {news : List (Addr × Obj)}
    (x y : PySem.Str) (ks : List (PySem.Str × Value)) (P : Nat → Prop) (μ : Nat → Nat) (R : List (Addr × Obj) → Value → Prop) {v₀ : Nat} {t₀ : Tok} (F : Fr g L s.heap m) (N : News g L s.heap news) (hx : m x = some (.int (v₀ : Int) t₀)) (hk : ∀ p ∈ ks, m p.1 = some p.2) (hp : P v₀)
    (turn : ∀ (n : Nat) tn u h tk, P n → Fr g L h (kstB u ((x, .int (n : Int) tn) :: ks)) → News g L h news →
      wpAny (model prog w) A (isTrue test env (eval test env)) (fun b s₂ =>
        if b = true then wpAny (model prog w) A (execs body env) (TwoTurn g L s news x y ks P μ R n) E s₂ else False) E { s with heap := h, toks := tk })
    (out : ∀ (z : Int) tn hv tl u h tk, z < 0 → R tl hv → Fr g L h (kstB u ((x, .int z tn) :: (y, hv) :: ks)) → News g L h (tl ++ news) →
      wpAny (model prog w) A (isTrue test env (eval test env)) (fun b s₂ => if b = true then False else Q .next s₂) E { s with heap := h, toks := tk })
    (hE : PassesOwn (model prog w) A env E := by passes_own) :
    wpAny (model prog w) A (exec (.While test body [] pos) env) Q E s := by
  refine While_inv2 (fun k m' nx => (∀ p ∈ ks, m' p.1 = some p.2) ∧ ((∃ (n : Nat) (tn : Tok), m' x = some (.int (n : Int) tn) ∧ nx = news ∧ P n ∧ μ n + 1 = k) ∨
    (∃ (z : Int) (tn : Tok) (hv : Value) (tl : List (Addr × Obj)), m' x = some (.int z tn) ∧ z < 0 ∧ m' y = some hv ∧ R tl hv ∧ nx = tl ++ news ∧ k = 0))) F N ⟨hk, .inl ⟨v₀, t₀, hx, rfl, hp, rfl⟩⟩ ?_ hE
  rintro k m' nx h tk F' N' ⟨hk', hJ⟩
  rcases hJ with ⟨n, tn, hx', rfl, hp', rfl⟩ | ⟨z, tn, hv, tl, hx', hz, hy', hR, rfl, rfl⟩
  · refine wpAny_mono (turn n tn m' h tk hp' (frKeep F' (List.forall_mem_cons.mpr ⟨hx', hk'⟩)) N') (fun b s₂ q => ?_) fun _ _ y => y
    cases b with
    | false => exact (by simpa using q : False).elim
    | true =>
      simp only [if_true] at q ⊢
      refine wpAny_mono q (fun f s₃ r => ?_) fun _ _ y => y
      obtain ⟨rfl, h', tk', m₂, rfl, F2, hk2, hc⟩ := r
      rcases hc with ⟨n', t', hx2, N2, hp2, hm⟩ | ⟨z, t', hv, tl, hx2, hz, hy2, hR2, N2⟩
      · exact ⟨h', tk', m₂, nx, μ n' + 1, rfl, F2, N2, Nat.succ_lt_succ hm, hk2, .inl ⟨n', t', hx2, rfl, hp2, rfl⟩⟩
      · exact ⟨h', tk', m₂, tl ++ nx, 0, rfl, F2, N2, Nat.succ_pos _, hk2, .inr ⟨z, t', hv, tl, hx2, hz, hy2, hR2, rfl, rfl⟩⟩
  · refine wpAny_mono (out z tn hv tl m' h tk hz hR (frKeep F' (List.forall_mem_cons.mpr ⟨hx', List.forall_mem_cons.mpr ⟨hy', hk'⟩⟩)) N') (fun b s₂ q => ?_) fun _ _ y => y
    cases b with
    | false => simpa using q
    | true => exact (by simpa using q : False).elim

theorem cmd_back {d : List UInt8} {n : Nat} {r : Int × Option (Int × Bool)} (c : CmdEnd d n r) : r.1 = -1 ∨ ∃ k : Nat, r.1 = (k : Int) ∧ n < k ∧ k ≤ d.length := by
  induction c with
  | none _ => exact .inl rfl
  | @line n j hs _ =>
    have := seekL_le hs
    rw [List.length_drop] at this
    exact .inr ⟨n + j + 2, rfl, by omega, by omega⟩
  | waits _ _ _ => exact .inl rfl
  | short _ _ _ _ => exact .inl rfl
  | @more at_ k n h r hs ho h1 h2 h3 _ ih =>
    have h0 := head_nonneg (n := h.1) (w := h.2) ho
    rcases ih with e | ⟨k', e, h4, h5⟩
    · exact .inl e
    · exact .inr ⟨k', e, by omega, h5⟩

section
variable {d : List UInt8} {n : Nat} {g h : Heap} {L : Addr} {s : Shared} {news : List (Addr × Obj)} {x y : PySem.Str} {ks : List (PySem.Str × Value)} {k : Int} {t : Tok} {m' : PySem.Str → Option Value} {tk : Nat} {q q1 p : Addr × Obj}
theorem want_any {o : Option (Int × Bool)} {hv : Value} {tl : List (Addr × Obj)} (hback : ∀ o, Wanted d n o → Wanted d 0 o) (hc : CmdEnd d n (k, o)) (F : Fr g L h m') (N : News g L h (q :: (tl ++ news))) (hR : HeadIn tl hv o) (hx : m' x = some (.int k t)) (hy : m' y = some hv) (hk : ∀ p ∈ ks, m' p.1 = some p.2) :
    TwoTurn g L s news x y ks (fun n => n ≤ d.length ∧ ∀ o, Wanted d n o → Wanted d 0 o) (fun n => d.length + 2 - n) (fun tl hv => ∃ o, Wanted d 0 o ∧ HeadIn tl hv o) n .next { s with heap := h, toks := tk } := by
  refine ⟨rfl, h, tk, m', rfl, F, hk, ?_⟩
  rcases cmd_back hc with e | ⟨k', e, h1, h2⟩
  · have e' : k = -1 := e
    exact .inr ⟨k, t, hv, tl, hx, by omega, hy, ⟨o, hback o (.stop hc (by omega)), hR⟩, fun p hp => N p (.tail _ hp)⟩
  · have e' : k = (k' : Int) := e
    subst e'
    exact .inl ⟨k', t, hx, fun p hp => N p (.tail _ (List.mem_append_right _ hp)), ⟨h2, fun o' w => hback o' (.next hc w)⟩, (by show d.length + 2 - k' < d.length + 2 - n; omega)⟩
end

local macro_rules | `(tactic| walk_at "exec While") => `(tactic| (refine Stop.go ?_))
local macro_rules | `(tactic| walk_at "exec While Compare") => `(tactic| (refine Stop.go ?_))
local macro_rules | `(tactic| walk_at "exec While Compare cons nil") => `(tactic| (refine Stop.go ?_))
local macro_rules | `(tactic| walk_at "call ref") => `(tactic| (k_here; (with_reducible show wpAny _ _ (call (Value.ref 42) _) _ _ _); k_dflt (refine' Con.use (con_cmd _ _ _ (by assumption) (by assumption) _ _ _) ?kb ?kf ?kx ?kn ?kt ?kk ?kd ?ku ?_; (case kb => k_asm); (case kf => k_asm); (case kx => k_asm); (case kn => k_asm); (case kt => k_asm); (case kk => exact rfl); (case kd => ktr_room); (case ku => ktr_units); k_whole); intro tl r h' tk' hR F' N'; obtain ⟨a, hc, hR⟩ := hR; cases hR <;> (simp only [tup, List.nil_append, List.cons_append] at N')))

theorem con_want (w : World) (d : List UInt8) (hd : d.length ≤ 16777216) (t : Tok) (news : List (Addr × Obj)) :
    Con 4 w 49 [.bytes d.toArray t] news (fun tl r => ∃ o, Wanted d 0 o ∧ HeadIn tl r o) := by
  unfold Con
  k_fill
  intro mean mg mb dp un gd cn cs a ccd cl outer A₀ base h₀ L m s Q E B F X N T hk hdp hun hret
  refine wpAny_call ?_
  k_dflt cell_enter
  rename Fr _ _ _ _ => F1
  change Fr _ _ _ (fun y => List.lookup y [(PySem.Str.ofString "data", Value.bytes d.toArray t)]) at F1
  k_steps
  unfold Stop
  rename Fr _ _ _ _ => F1
  rename News _ _ _ _ => N1
  refine while_two (PySem.Str.ofString "at") (PySem.Str.ofString "head") [(PySem.Str.ofString "data", Value.bytes d.toArray t)] (fun n => n ≤ d.length ∧ ∀ o, Wanted d n o → Wanted d 0 o) (fun n => d.length + 2 - n) (fun tl hv => ∃ o, Wanted d 0 o ∧ HeadIn tl hv o) (v₀ := 0) F1 N1 rfl (by kst_all) ⟨Nat.zero_le _, fun _ h => h⟩ ?turn ?out
  case turn =>
    clear F1 N1
    rintro n tn u h tk ⟨hn, hback⟩ F' N'
    k_steps
    · exact want_any (tl := []) hback (by assumption) (by assumption) (by assumption) .none rfl rfl (by kst_all)
    · exact want_any (tl := [(_, _)]) hback (by assumption) (by assumption) (by assumption) (.some _ _ _ _) rfl rfl (by kst_all)
  case out =>
    clear F1 N1
    rintro z tn hv tl u h tk hz hR F' N'
    k_steps
    exact hret tl _ _ _ hR (by assumption) (by assumption)
end Mine

/-! law -/
namespace Mine
set_option maxRecDepth 100000

/-! ## what is given back is one -/
theorem CmdEnd.unique {d : List UInt8} {n : Nat} {r r' : Int × Option (Int × Bool)} (c : CmdEnd d n r) (c' : CmdEnd d n r') : r = r' := by
  induction c generalizing r' with
  | none hs =>
    cases c' with
    | none _ => rfl
    | line hs' _ => rw [hs] at hs'; cases hs'
    | waits hs' _ _ => rw [hs] at hs'; cases hs'
    | short _ _ _ _ => rfl
    | more hs' _ _ _ _ _ => rw [hs] at hs'; cases hs'
  | line hs ho =>
    cases c' with
    | none hs' => rw [hs] at hs'; cases hs'
    | line hs' _ => rw [hs] at hs'; cases hs'; rfl
    | waits hs' ho' _ => rw [hs] at hs'; cases hs'; rw [ho] at ho'; cases ho'
    | short hs' ho' _ _ => rw [hs] at hs'; cases hs'; rw [ho] at ho'; cases ho'
    | more hs' ho' _ _ _ _ => rw [hs] at hs'; cases hs'; rw [ho] at ho'; cases ho'
  | waits hs ho hl =>
    cases c' with
    | none hs' => rw [hs] at hs'; cases hs'
    | line hs' ho' => rw [hs] at hs'; cases hs'; rw [ho] at ho'; cases ho'
    | waits hs' ho' _ => rw [hs] at hs'; cases hs'; rw [ho] at ho'; cases ho'; rfl
    | short hs' ho' hl' _ => rw [hs] at hs'; cases hs'; exact absurd hl hl'
    | more hs' ho' hl' _ _ _ => rw [hs] at hs'; cases hs'; exact absurd hl hl'
  | short hs ho hl hg =>
    cases c' with
    | none _ => rfl
    | line hs' ho' => rw [hs] at hs'; cases hs'; rw [ho] at ho'; cases ho'
    | waits hs' ho' hl' => rw [hs] at hs'; cases hs'; exact absurd hl' hl
    | short hs' ho' hl' _ => rfl
    | more hs' ho' hl' he hn _ => rw [hs] at hs'; cases hs'; rw [ho] at ho'; cases ho'; omega
  | more hs ho hl he hn _ ih =>
    cases c' with
    | none hs' => rw [hs] at hs'; cases hs'
    | line hs' ho' => rw [hs] at hs'; cases hs'; rw [ho] at ho'; cases ho'
    | waits hs' ho' hl' => rw [hs] at hs'; cases hs'; exact absurd hl' hl
    | short hs' ho' hl' hg => rw [hs] at hs'; cases hs'; rw [ho] at ho'; cases ho'; omega
    | more hs' ho' hl' he' hn' c2 =>
      rw [hs] at hs'; cases hs'; rw [ho] at ho'; cases ho'
      have e := Int.natCast_inj.mp (he.symm.trans he')
      subst e
      exact ih c2
theorem Wanted.unique {d : List UInt8} {n : Nat} {o o' : Option (Int × Bool)} (c : Wanted d n o) (c' : Wanted d n o') : o = o' := by
  induction c generalizing o' with
  | stop h hk =>
    cases c' with
    | stop h' _ => have e := h.unique h'; cases e; rfl
    | next h' _ => have e := h.unique h'; cases e; omega
  | next h _ ih =>
    cases c' with
    | stop h' hk => have e := h.unique h'; cases e; omega
    | @next _ k' _ _ h' w =>
      have e := h.unique h'
      have e1 := Int.natCast_inj.mp (congrArg Prod.fst e)
      subst e1
      exact ih w
theorem Wanted.back {d : List UInt8} {n m : Nat} {o : Option (Int × Bool)} (w : Wanted d n o) (h : ∀ r, CmdEnd d n r → CmdEnd d m r) : Wanted d m o := by
  cases w with
  | stop c hk => exact .stop (h _ c) hk
  | next c w => exact .next (h _ c) w

/-! ## what lies ahead and behind does not count -/
theorem getD_mid (p y z : List UInt8) {i : Nat} (h : i < y.length) : (p ++ (y ++ z)).getD (p.length + i) 0 = y.getD i 0 := by
  rw [List.getD_eq_getElem?_getD, List.getD_eq_getElem?_getD, List.getElem?_append_right (by omega), List.getElem?_append_left (by omega)]
  congr 2
  omega
theorem back_mid (p y z : List UInt8) : ∀ n, n ≤ y.length → back (p ++ (y ++ z)) p.length (p.length + n) = p.length + back y 0 n
  | 0, _ => by
    cases e : p.length with
    | zero => rfl
    | succ k =>
      show (if k + 1 ≤ k ∧ _ then _ else k + 1) = _
      rw [if_neg fun q => by have := q.1; omega]
      rfl
  | n + 1, h => by
    show (if p.length ≤ p.length + n ∧ isFig ((p ++ (y ++ z)).getD (p.length + n) 0) = true then back (p ++ (y ++ z)) p.length (p.length + n) else p.length + n + 1) = p.length + (if 0 ≤ n ∧ isFig (y.getD n 0) = true then back y 0 n else n + 1)
    rw [getD_mid p y z (by omega), back_mid p y z n (by omega)]
    by_cases q : isFig (y.getD n 0) = true
    · rw [if_pos ⟨by omega, q⟩, if_pos ⟨Nat.zero_le _, q⟩]
    · rw [if_neg fun x => q x.2, if_neg fun x => q x.2]
      omega
theorem waits_mid (p y z : List UInt8) (h : 0 < y.length) : waitsF (p ++ (y ++ z)) p.length (p.length + y.length) = waitsF y 0 y.length := by
  unfold waitsF
  refine decide_eq_decide.mpr ?_
  by_cases q : y.length = 1
  · constructor <;> intro _ <;> left <;> omega
  · have e : p.length + y.length - 2 = p.length + (y.length - 2) := by omega
    rw [e, getD_mid p y z (by omega)]
    constructor
    · rintro (x | x)
      · left; omega
      · right; exact x
    · rintro (x | x)
      · left; omega
      · right; exact x
theorem last_mid (p y z : List UInt8) (h : 0 < y.length) (h1 : p.length + y.length - 1 ≤ p.length + y.length) : lastF (p ++ (y ++ z)) p.length (p.length + y.length) = p.length + lastF y 0 y.length := by
  unfold lastF
  rw [waits_mid p y z h]
  split
  · omega
  · rename_i q
    have : waitsF y 0 y.length = false := by simpa using q
    have h2 : ¬ (y.length - 1 ≤ 0) := fun x => by
      have := of_decide_eq_false this
      exact this (.inl x)
    omega
theorem last_le (y : List UInt8) : lastF y 0 y.length ≤ y.length := by
  unfold lastF
  split <;> omega
theorem first_mid (p y z : List UInt8) (h : 0 < y.length) : firstF (p ++ (y ++ z)) p.length (p.length + y.length) = p.length + firstF y 0 y.length := by
  unfold firstF
  rw [last_mid p y z h (by omega), back_mid p y z _ (last_le y)]
theorem piece_mid (p y z : List UInt8) {k l : Nat} (h1 : k ≤ l) (h2 : l ≤ y.length) : piece (p ++ (y ++ z)) (p.length + k) (p.length + l) = piece y k l := by
  unfold piece
  have e : p.length + l - (p.length + k) = l - k := by omega
  have e2 : (p ++ (y ++ z)).drop (p.length + k) = (y ++ z).drop k := by
    rw [List.drop_append, List.drop_of_length_le (by omega)]
    simp
  rw [e, e2, List.drop_append_of_le_length (by omega), List.take_append_of_le_length (by rw [List.length_drop]; omega)]
theorem head_mid (p y z : List UInt8) : headF (p ++ (y ++ z)) p.length (p.length + y.length) = headF y 0 y.length := by
  unfold headF
  by_cases h : y.length ≤ 0
  · rw [if_pos (.inl (by omega)), if_pos (.inl h)]
  · have hl := last_le y
    have hf : firstF y 0 y.length ≤ lastF y 0 y.length := back_le y 0 _
    have e1 : p.length + y.length - 1 = p.length + (y.length - 1) := by omega
    have c1 : (p.length + y.length ≤ p.length ∨ (p ++ (y ++ z)).getD (p.length + y.length - 1) 0 ≠ 125) ↔ (y.length ≤ 0 ∨ y.getD (y.length - 1) 0 ≠ 125) := by
      rw [e1, getD_mid p y z (by omega)]
      constructor
      · rintro (q | q)
        · omega
        · exact .inr q
      · rintro (q | q)
        · omega
        · exact .inr q
    by_cases q1 : y.length ≤ 0 ∨ y.getD (y.length - 1) 0 ≠ 125
    · rw [if_pos (c1.mpr q1), if_pos q1]
    · rw [if_neg fun x => q1 (c1.mp x), if_neg q1, first_mid p y z (by omega), last_mid p y z (by omega) (by omega), waits_mid p y z (by omega), piece_mid p y z hf hl]
      have c2 : (p.length + firstF y 0 y.length ≤ p.length ∨ (p ++ (y ++ z)).getD (p.length + firstF y 0 y.length - 1) 0 ≠ 123 ∨ ¬ (0 < p.length + lastF y 0 y.length - (p.length + firstF y 0 y.length) ∧ p.length + lastF y 0 y.length - (p.length + firstF y 0 y.length) ≤ 10)) ↔
          (firstF y 0 y.length ≤ 0 ∨ y.getD (firstF y 0 y.length - 1) 0 ≠ 123 ∨ ¬ (0 < lastF y 0 y.length - firstF y 0 y.length ∧ lastF y 0 y.length - firstF y 0 y.length ≤ 10)) := by
        have e3 : p.length + lastF y 0 y.length - (p.length + firstF y 0 y.length) = lastF y 0 y.length - firstF y 0 y.length := by omega
        rw [e3]
        by_cases q2 : firstF y 0 y.length ≤ 0
        · exact ⟨fun _ => .inl q2, fun _ => .inl (by omega)⟩
        · have e4 : p.length + firstF y 0 y.length - 1 = p.length + (firstF y 0 y.length - 1) := by omega
          rw [e4, getD_mid p y z (by omega)]
          constructor
          · rintro (x | x)
            · omega
            · exact .inr x
          · rintro (x | x)
            · exact absurd x q2
            · exact .inr x
      by_cases q3 : firstF y 0 y.length ≤ 0 ∨ y.getD (firstF y 0 y.length - 1) 0 ≠ 123 ∨ ¬ (0 < lastF y 0 y.length - firstF y 0 y.length ∧ lastF y 0 y.length - firstF y 0 y.length ≤ 10)
      · rw [if_pos (c2.mpr q3), if_pos q3]
      · rw [if_neg fun x => q3 (c2.mp x), if_neg q3]

/-! ## a line's end -/
theorem seek_line : ∀ (y z : List UInt8), 13 ∉ y → seekL (y ++ 13 :: 10 :: z) = some y.length
  | [], z, _ => by
    show (if (13 : UInt8) = 13 ∧ (10 :: z).head? = some 10 then some 0 else _) = _
    rw [if_pos ⟨rfl, rfl⟩]
    rfl
  | a :: r, z, h => by
    show (if a = 13 ∧ _ then some 0 else (seekL (r ++ 13 :: 10 :: z)).map (· + 1)) = _
    rw [if_neg fun q => h (by rw [q.1]; exact .head _), seek_line r z fun q => h (.tail _ q)]
    rfl
theorem seek_free : ∀ (y : List UInt8), 13 ∉ y → seekL y = none
  | [], _ => rfl
  | a :: r, h => by
    show (if a = 13 ∧ _ then some 0 else (seekL r).map (· + 1)) = _
    rw [if_neg fun q => h (by rw [q.1]; exact .head _), seek_free r fun q => h (.tail _ q)]
    rfl
theorem seek_half : ∀ (y : List UInt8), 13 ∉ y → seekL (y ++ [13]) = none
  | [], _ => by decide
  | a :: r, h => by
    show (if a = 13 ∧ _ then some 0 else (seekL (r ++ [13])).map (· + 1)) = _
    rw [if_neg fun q => h (by rw [q.1]; exact .head _), seek_half r fun q => h (.tail _ q)]
    rfl
/-- cut ahead of its end, a line has none -/
theorem seek_cut (y z : List UInt8) (h : 13 ∉ y) {k : Nat} (hk : k < y.length + 2) : seekL ((y ++ 13 :: 10 :: z).take k) = none := by
  by_cases q : k ≤ y.length
  · rw [List.take_append_of_le_length q]
    exact seek_free _ fun x => h (List.mem_of_mem_take x)
  · have e : k = y.length + 1 := by omega
    subst e
    rw [List.take_length_add_append]
    exact seek_half _ h
variable {p y z : List UInt8}
theorem end_open (h : seekL y = none) : CmdEnd (p ++ y) p.length (-1, none) := .none (by rw [List.drop_left]; exact h)
theorem end_line (h : 13 ∉ y) (hh : headF y 0 y.length = none) : CmdEnd (p ++ (y ++ 13 :: 10 :: z)) p.length (((p.length + y.length + 2 : Nat) : Int), none) :=
  .line (by rw [List.drop_left]; exact seek_line y z h) (by rw [head_mid]; exact hh)
variable {c : Nat} {w : Bool}
theorem end_waits (h : 13 ∉ y) (hh : headF y 0 y.length = some ((c : Int), w)) : CmdEnd (p ++ (y ++ [13, 10])) p.length (-1, some ((c : Int), w)) :=
  .waits (k := y.length) (by rw [List.drop_left]; exact seek_line y [] h) (by rw [head_mid]; exact hh) (by simp only [List.length_append, List.length_cons, List.length_nil]; omega)
theorem end_short (h : 13 ∉ y) (hh : headF y 0 y.length = some ((c : Int), w)) (hz : z ≠ []) (hc : z.length < c) : CmdEnd (p ++ (y ++ 13 :: 10 :: z)) p.length (-1, none) := by
  have hz' : 0 < z.length := List.length_pos_iff.mpr hz
  refine .short (k := y.length) (by rw [List.drop_left]; exact seek_line y z h) (by rw [head_mid]; exact hh) ?_ ?_
  · simp only [List.length_append, List.length_cons]; omega
  · show ((p.length + y.length + 2 : Nat) : Int) + (c : Int) > _
    simp only [List.length_append, List.length_cons]; omega
theorem end_more {r : Int × Option (Int × Bool)} (h : 13 ∉ y) (hh : headF y 0 y.length = some ((c : Int), w)) (hz : z ≠ []) (hc : c ≤ z.length) (hr : CmdEnd (p ++ (y ++ 13 :: 10 :: z)) (p.length + (y.length + 2 + c)) r) : CmdEnd (p ++ (y ++ 13 :: 10 :: z)) p.length r := by
  have hz' : 0 < z.length := List.length_pos_iff.mpr hz
  refine .more (k := y.length) (n := p.length + (y.length + 2 + c)) (by rw [List.drop_left]; exact seek_line y z h) (by rw [head_mid]; exact hh) ?_ ?_ ?_ hr
  · simp only [List.length_append, List.length_cons]; omega
  · show ((p.length + y.length + 2 : Nat) : Int) + (c : Int) = _
    omega
  · simp only [List.length_append, List.length_cons]; omega
end Mine

/-! items -/
namespace Mine
set_option maxRecDepth 100000

/-- a piece of the octets: a text with a literal's head, its line's end and the literal; or a text with a line's end -/
inductive Item where
  | seg (x : List UInt8) (c : Nat) (w : Bool)
  | tail (x : List UInt8)

def texts : List (List UInt8) := [[97, 32, 76, 79, 71, 73, 78, 32], [], [123, 49], [120, 123, 50, 125, 121], [32]]
def tails : List (List UInt8) := [[], [32, 98], [123, 57], [125], [123, 49, 125, 122]]
def headB (x : List UInt8) (c : Nat) (w : Bool) : List UInt8 := x ++ (123 :: UInt8.ofNat (48 + c) :: (if w = true then [125] else [43, 125]))
def litB (c : Nat) : List UInt8 := List.take c [13, 10, 123, 51, 125, 13]
def Item.line : Item → List UInt8
  | .seg x c w => headB x c w
  | .tail x => x
def Item.rest : Item → List UInt8
  | .seg _ c _ => litB c
  | .tail _ => []
def Item.bytes (i : Item) : List UInt8 := i.line ++ 13 :: 10 :: i.rest
def Item.Ok : Item → Prop
  | .seg x c _ => x ∈ texts ∧ c ≤ 6
  | .tail x => x ∈ tails
def Item.head : Item → Option (Nat × Bool)
  | .seg _ c w => some (c, w)
  | .tail _ => none
def flat : List Item → List UInt8
  | [] => []
  | i :: r => i.bytes ++ flat r
/-- the head right ahead of a place -/
def lookH : List Item → Nat → Option (Nat × Bool)
  | [], _ => none
  | i :: r, k => if k = i.line.length + 2 ∧ i.head.isSome = true then i.head else if k < i.bytes.length then none else lookH r (k - i.bytes.length)
def headsOf : List Item → Nat → List (Nat × (Nat × Bool))
  | [], _ => []
  | .seg x c w :: r, o => (o + (headB x c w).length + 2, (c, w)) :: headsOf r (o + (Item.seg x c w).bytes.length)
  | .tail x :: r, o => headsOf r (o + (Item.tail x).bytes.length)
def beginsOf : List Item → Nat → List Nat
  | [], _ => []
  | .seg x c w :: r, o => beginsOf r (o + (Item.seg x c w).bytes.length)
  | .tail x :: r, o => (o + (Item.tail x).bytes.length) :: beginsOf r (o + (Item.tail x).bytes.length)

def castH (h : Option (Nat × Bool)) : Option (Int × Bool) := h.map fun p => ((p.1 : Int), p.2)

theorem small {c : Nat} (h : c ≤ 6) : c = 0 ∨ c = 1 ∨ c = 2 ∨ c = 3 ∨ c = 4 ∨ c = 5 ∨ c = 6 := by omega
def allSegs (f : List UInt8 → Nat → Bool → Bool) : Bool := texts.all fun x => (List.range 7).all fun c => f x c true && f x c false
theorem allSegs_of {f : List UInt8 → Nat → Bool → Bool} (h : allSegs f = true) {x : List UInt8} {c : Nat} (hx : x ∈ texts) (hc : c ≤ 6) (w : Bool) : f x c w = true := by
  have h1 := List.all_eq_true.mp (List.all_eq_true.mp h x hx) c (List.mem_range.mpr (by omega))
  rw [Bool.and_eq_true] at h1
  cases w
  · exact h1.2
  · exact h1.1
theorem seg_line {x : List UInt8} {c : Nat} (w : Bool) (hx : x ∈ texts) (hc : c ≤ 6) : 13 ∉ headB x c w ∧ headF (headB x c w) 0 (headB x c w).length = some ((c : Int), w) ∧ (litB c).length = c ∧ (headB x c w).length ≤ 12 := by
  have h := allSegs_of (f := fun x c w => decide (13 ∉ headB x c w) && (headF (headB x c w) 0 (headB x c w).length == some ((c : Int), w)) && decide ((litB c).length = c) && decide ((headB x c w).length ≤ 12)) (by decide +kernel) hx hc w
  simp only [Bool.and_eq_true, decide_eq_true_eq, beq_iff_eq] at h
  exact ⟨h.1.1.1, h.1.1.2, h.1.2, h.2⟩
theorem tail_line {x : List UInt8} (hx : x ∈ tails) : 13 ∉ x ∧ headF x 0 x.length = none ∧ x.length ≤ 4 := by
  have h : (tails.all fun x => decide (13 ∉ x) && (headF x 0 x.length == none) && decide (x.length ≤ 4)) = true := by decide +kernel
  have h1 := List.all_eq_true.mp h x hx
  simp only [Bool.and_eq_true, decide_eq_true_eq, beq_iff_eq] at h1
  exact ⟨h1.1.1, h1.1.2, h1.2⟩
theorem Item.free {i : Item} (h : i.Ok) : 13 ∉ i.line := by
  cases i with
  | seg x c w => exact (seg_line w h.1 h.2).1
  | tail x => exact (tail_line h).1
theorem Item.size (i : Item) : i.bytes.length = i.line.length + 2 + i.rest.length := by
  unfold Item.bytes
  simp only [List.length_append, List.length_cons]
  omega
theorem Item.le {i : Item} (h : i.Ok) : i.bytes.length ≤ 20 := by
  rw [i.size]
  cases i with
  | seg x c w =>
    have := seg_line w h.1 h.2
    have h2 := h.2
    show (headB x c w).length + 2 + (litB c).length ≤ 20
    omega
  | tail x =>
    have := tail_line h
    show x.length + 2 + 0 ≤ 20
    omega
theorem flat_append : ∀ (a b : List Item), flat (a ++ b) = flat a ++ flat b
  | [], _ => rfl
  | i :: r, b => by
    show i.bytes ++ flat (r ++ b) = i.bytes ++ flat r ++ flat b
    rw [flat_append r b, List.append_assoc]
theorem flat_le : ∀ (a : List Item), (∀ i ∈ a, i.Ok) → (flat a).length ≤ 20 * a.length
  | [], _ => Nat.le_refl _
  | i :: r, h => by
    have h1 := Item.le (h i (.head _))
    have h2 := flat_le r fun j hj => h j (.tail _ hj)
    show (i.bytes ++ flat r).length ≤ 20 * (r.length + 1)
    rw [List.length_append]
    omega
theorem bytes_ne (i : Item) : i.bytes ≠ [] := by
  intro e
  have := congrArg List.length e
  rw [i.size] at this
  simp only [List.length_nil] at this
  omega

/-! ## the cuts -/
theorem wanted_cut : ∀ (its : List Item) (p : List UInt8) (k : Nat), (∀ i ∈ its, i.Ok) → k ≤ (flat its).length → Wanted (p ++ (flat its).take k) p.length (castH (lookH its k))
  | [], p, k, _, _ => by
    have e : (flat ([] : List Item)).take k = [] := by cases k <;> rfl
    rw [e]
    exact .stop (end_open rfl) (by decide)
  | i :: r, p, k, h, hk => by
    have hi := h i (.head _)
    have hfree := Item.free hi
    have hsz := i.size
    have eb : flat (i :: r) = i.line ++ 13 :: 10 :: (i.rest ++ flat r) := by
      show (i.line ++ 13 :: 10 :: i.rest) ++ flat r = _
      rw [List.append_assoc]
      rfl
    by_cases h1 : k < i.line.length + 2
    · -- within the line
      have el : lookH (i :: r) k = none := by
        show (if k = i.line.length + 2 ∧ _ then _ else if k < i.bytes.length then none else _) = none
        rw [if_neg fun q => by omega, if_pos (by omega)]
      rw [el, eb]
      exact .stop (end_open (seek_cut _ _ hfree h1)) (by decide)
    · -- behind it
      have et : (flat (i :: r)).take k = i.line ++ 13 :: 10 :: (i.rest ++ flat r).take (k - (i.line.length + 2)) := by
        rw [eb, List.take_append, List.take_of_length_le (by omega)]
        have e2 : k - i.line.length = (k - (i.line.length + 2)) + 2 := by omega
        rw [e2]
        rfl
      have hlen : (flat (i :: r)).length = i.bytes.length + (flat r).length := by
        show (i.bytes ++ flat r).length = _
        rw [List.length_append]
      have step : i.bytes.length ≤ k → (p ++ (flat (i :: r)).take k) = (p ++ i.bytes) ++ (flat r).take (k - i.bytes.length) := fun hb => by
        show p ++ (i.bytes ++ flat r).take k = _
        rw [List.take_append, List.take_of_length_le hb, List.append_assoc]
      have ih := wanted_cut r (p ++ i.bytes) (k - i.bytes.length) (fun j hj => h j (.tail _ hj)) (by omega)
      cases i with
      | tail x =>
        have hx := tail_line hi
        have hb : (Item.tail x).bytes.length ≤ k := by
          rw [hsz]
          exact Nat.le_of_not_lt h1
        have el : lookH (Item.tail x :: r) k = lookH r (k - (Item.tail x).bytes.length) := by
          show (if k = x.length + 2 ∧ false = true then _ else if k < (Item.tail x).bytes.length then none else _) = _
          rw [if_neg fun q => Bool.false_ne_true q.2, if_neg (by omega)]
        rw [el]
        have c : CmdEnd (p ++ (flat (Item.tail x :: r)).take k) p.length (((p.length + x.length + 2 : Nat) : Int), none) := by
          rw [et]
          exact end_line hfree hx.2.1
        have e3 : p.length + x.length + 2 = (p ++ (Item.tail x).bytes).length := by
          rw [List.length_append, hsz]
          show p.length + x.length + 2 = p.length + (x.length + 2 + 0)
          omega
        rw [e3] at c
        refine .next c ?_
        rw [step hb]
        exact ih
      | seg x c w =>
        obtain ⟨_, hh, hlit, _⟩ := seg_line w hi.1 hi.2
        have hl : (Item.seg x c w).line = headB x c w := rfl
        have hr : (Item.seg x c w).rest = litB c := rfl
        rw [hl] at hsz h1 et hfree
        rw [hr] at hsz et
        by_cases h2 : k = (headB x c w).length + 2
        · -- right behind the head
          have el : lookH (Item.seg x c w :: r) k = some (c, w) := by
            show (if k = (headB x c w).length + 2 ∧ true = true then some (c, w) else _) = _
            rw [if_pos ⟨h2, rfl⟩]
          rw [el, et]
          have e4 : k - ((headB x c w).length + 2) = 0 := by omega
          rw [e4]
          exact .stop (end_waits hfree hh) (by decide)
        · have hz : (litB c ++ flat r).take (k - ((headB x c w).length + 2)) ≠ [] := by
            intro q
            have q2 := congrArg List.length q
            rw [List.length_take, List.length_append, hlit, List.length_nil] at q2
            omega
          have hzl : ((litB c ++ flat r).take (k - ((headB x c w).length + 2))).length = k - ((headB x c w).length + 2) := by
            rw [List.length_take, List.length_append, hlit]
            omega
          by_cases h3 : k < (Item.seg x c w).bytes.length
          · have el : lookH (Item.seg x c w :: r) k = none := by
              show (if k = (headB x c w).length + 2 ∧ true = true then some (c, w) else if k < (Item.seg x c w).bytes.length then none else _) = _
              rw [if_neg fun q => h2 q.1, if_pos h3]
            rw [el, et]
            exact .stop (end_short hfree hh hz (by omega)) (by decide)
          · have el : lookH (Item.seg x c w :: r) k = lookH r (k - (Item.seg x c w).bytes.length) := by
              show (if k = (headB x c w).length + 2 ∧ true = true then some (c, w) else if k < (Item.seg x c w).bytes.length then none else _) = _
              rw [if_neg fun q => h2 q.1, if_neg h3]
            rw [el]
            have ih' : Wanted (p ++ (flat (Item.seg x c w :: r)).take k) (p.length + ((headB x c w).length + 2 + c)) (castH (lookH r (k - (Item.seg x c w).bytes.length))) := by
              rw [step (by omega)]
              have e5 : p.length + ((headB x c w).length + 2 + c) = (p ++ (Item.seg x c w).bytes).length := by
                rw [List.length_append, hsz, hlit]
              rw [e5]
              exact ih
            refine ih'.back fun q cq => ?_
            rw [et] at cq ⊢
            exact end_more hfree hh hz (by omega) cq

/-! ## the begins -/
def Pairs (d : List UInt8) (l : List Nat) : Prop := ∀ (i a b : Nat), l[i]? = some a → l[i + 1]? = some b → CmdEnd d a ((b : Int), none)
theorem begins_pairs : ∀ (its : List Item) (p : List UInt8) (cur : Nat), (∀ i ∈ its, i.Ok) → (∀ r, CmdEnd (p ++ flat its) p.length r → CmdEnd (p ++ flat its) cur r) → Pairs (p ++ flat its) (cur :: beginsOf its p.length)
  | [], p, cur, _, _ => by
    intro i a b _ hb
    simp [beginsOf] at hb
  | .seg x c w :: r, p, cur, h, hcur => by
    have hi := h _ (.head _)
    obtain ⟨hfree, hh, hlit, _⟩ := seg_line w hi.1 hi.2
    have hsz := (Item.seg x c w).size
    have eb : p ++ flat (Item.seg x c w :: r) = (p ++ (Item.seg x c w).bytes) ++ flat r := (List.append_assoc _ _ _).symm
    have eo : beginsOf (Item.seg x c w :: r) p.length = beginsOf r (p ++ (Item.seg x c w).bytes).length := by
      rw [List.length_append]
      rfl
    rw [eo]
    by_cases hr : r = []
    · subst hr
      intro i a b _ hb
      simp [beginsOf] at hb
    · rw [eb] at hcur ⊢
      refine begins_pairs r (p ++ (Item.seg x c w).bytes) cur (fun j hj => h j (.tail _ hj)) fun q cq => hcur q ?_
      have e2 : p ++ (Item.seg x c w).bytes ++ flat r = p ++ (headB x c w ++ 13 :: 10 :: (litB c ++ flat r)) := by
        rw [List.append_assoc]
        show p ++ ((headB x c w ++ 13 :: 10 :: litB c) ++ flat r) = _
        rw [List.append_assoc]
        rfl
      have e3 : (p ++ (Item.seg x c w).bytes).length = p.length + ((headB x c w).length + 2 + c) := by
        rw [List.length_append, hsz]
        show p.length + ((headB x c w).length + 2 + (litB c).length) = _
        rw [hlit]
      rw [e3] at cq
      rw [e2] at cq ⊢
      refine end_more hfree hh ?_ (by rw [List.length_append, hlit]; omega) cq
      intro q2
      cases r with
      | nil => exact hr rfl
      | cons j r' =>
        have q3 := (List.append_eq_nil_iff.mp q2).2
        exact bytes_ne j (List.append_eq_nil_iff.mp q3).1
  | .tail x :: r, p, cur, h, hcur => by
    have hx := tail_line (h _ (.head _))
    have hsz := (Item.tail x).size
    have eb : p ++ flat (Item.tail x :: r) = (p ++ (Item.tail x).bytes) ++ flat r := (List.append_assoc _ _ _).symm
    have eo : beginsOf (Item.tail x :: r) p.length = (p ++ (Item.tail x).bytes).length :: beginsOf r (p ++ (Item.tail x).bytes).length := by
      rw [List.length_append]
      rfl
    have ih := begins_pairs r (p ++ (Item.tail x).bytes) (p ++ (Item.tail x).bytes).length (fun j hj => h j (.tail _ hj)) fun _ c => c
    rw [eo]
    intro i a b ha hb
    cases i with
    | zero =>
      rw [List.getElem?_cons_zero] at ha
      cases ha
      rw [List.getElem?_cons_succ, List.getElem?_cons_zero] at hb
      cases hb
      refine hcur _ ?_
      have e2 : p ++ flat (Item.tail x :: r) = p ++ (x ++ 13 :: 10 :: flat r) := by
        show p ++ ((x ++ [13, 10]) ++ flat r) = _
        rw [List.append_assoc]
        rfl
      have e3 : (p ++ (Item.tail x).bytes).length = p.length + x.length + 2 := by
        rw [List.length_append, hsz]
        show p.length + (x.length + 2 + 0) = _
        omega
      rw [e3, e2]
      exact end_line hx.1 hx.2.1
    | succ i =>
      rw [List.getElem?_cons_succ] at ha hb
      rw [eb]
      exact ih i a b ha hb

/-! ## the dict, the list: one item more -/
theorem heads_snoc_seg (x : List UInt8) (c : Nat) (w : Bool) : ∀ (a : List Item) (o : Nat), headsOf (a ++ [.seg x c w]) o = headsOf a o ++ [(o + (flat a).length + (headB x c w).length + 2, (c, w))]
  | [], o => rfl
  | .seg x' c' w' :: r, o => by
    show (_ :: headsOf (r ++ [.seg x c w]) (o + (Item.seg x' c' w').bytes.length)) = _ :: (headsOf r (o + (Item.seg x' c' w').bytes.length) ++ _)
    rw [heads_snoc_seg x c w r]
    show _ = _ :: (_ ++ [(o + ((Item.seg x' c' w').bytes ++ flat r).length + _ + 2, _)])
    rw [List.length_append]
    simp only [Nat.add_assoc]
  | .tail x' :: r, o => by
    show headsOf (r ++ [.seg x c w]) (o + (Item.tail x').bytes.length) = headsOf r (o + (Item.tail x').bytes.length) ++ _
    rw [heads_snoc_seg x c w r]
    show _ = _ ++ [(o + ((Item.tail x').bytes ++ flat r).length + _ + 2, _)]
    rw [List.length_append]
    simp only [Nat.add_assoc]
theorem heads_snoc_tail (x : List UInt8) : ∀ (a : List Item) (o : Nat), headsOf (a ++ [.tail x]) o = headsOf a o
  | [], o => rfl
  | .seg x' c' w' :: r, o => by
    show (_ :: headsOf (r ++ [.tail x]) _) = _ :: headsOf r _
    rw [heads_snoc_tail x r]
  | .tail x' :: r, o => by
    show headsOf (r ++ [.tail x]) _ = headsOf r _
    rw [heads_snoc_tail x r]
theorem begins_snoc_seg (x : List UInt8) (c : Nat) (w : Bool) : ∀ (a : List Item) (o : Nat), beginsOf (a ++ [.seg x c w]) o = beginsOf a o
  | [], o => rfl
  | .seg x' c' w' :: r, o => by
    show beginsOf (r ++ [.seg x c w]) _ = beginsOf r _
    rw [begins_snoc_seg x c w r]
  | .tail x' :: r, o => by
    show (_ :: beginsOf (r ++ [.seg x c w]) _) = _ :: beginsOf r _
    rw [begins_snoc_seg x c w r]
theorem begins_snoc_tail (x : List UInt8) : ∀ (a : List Item) (o : Nat), beginsOf (a ++ [.tail x]) o = beginsOf a o ++ [o + (flat (a ++ [.tail x])).length]
  | [], o => by
    show [o + (Item.tail x).bytes.length] = [o + ((Item.tail x).bytes ++ []).length]
    rw [List.append_nil]
  | .seg x' c' w' :: r, o => by
    show beginsOf (r ++ [.tail x]) _ = beginsOf r _ ++ [o + ((Item.seg x' c' w').bytes ++ flat (r ++ [.tail x])).length]
    rw [begins_snoc_tail x r, List.length_append, Nat.add_assoc]
  | .tail x' :: r, o => by
    show (_ :: beginsOf (r ++ [.tail x]) _) = _ :: (beginsOf r _ ++ [o + ((Item.tail x').bytes ++ flat (r ++ [.tail x])).length])
    rw [begins_snoc_tail x r, List.length_append, Nat.add_assoc]
def findH (l : List (Nat × (Nat × Bool))) (k : Nat) : Option (Nat × Bool) := (l.find? fun p => decide (p.1 = k)).map (·.2)
theorem heads_bound : ∀ (a : List Item) (o : Nat), ∀ p ∈ headsOf a o, o < p.1 ∧ p.1 ≤ o + (flat a).length
  | [], _, _, hp => nomatch hp
  | .seg x c w :: r, o, p, hp => by
    have hsz := (Item.seg x c w).size
    have hl : (Item.seg x c w).line = headB x c w := rfl
    have e : (flat (Item.seg x c w :: r)).length = (Item.seg x c w).bytes.length + (flat r).length := List.length_append
    rw [hl] at hsz
    rcases List.mem_cons.mp hp with rfl | hp
    · dsimp only
      omega
    · have := heads_bound r _ p hp
      omega
  | .tail x :: r, o, p, hp => by
    have hsz := (Item.tail x).size
    have e : (flat (Item.tail x :: r)).length = (Item.tail x).bytes.length + (flat r).length := List.length_append
    have := heads_bound r _ p hp
    omega
theorem find_low (a : List Item) (o k : Nat) (h : k ≤ o) : findH (headsOf a o) k = none := by
  unfold findH
  rw [List.find?_eq_none.mpr fun p hp => ?_]
  · rfl
  · have := heads_bound a o p hp
    simp only [decide_eq_true_eq]
    omega
theorem find_heads : ∀ (a : List Item) (o k : Nat), findH (headsOf a o) (o + k) = lookH a k
  | [], _, _ => rfl
  | .seg x c w :: r, o, k => by
    have hsz := (Item.seg x c w).size
    have hl : (Item.seg x c w).line = headB x c w := rfl
    rw [hl] at hsz
    unfold findH
    show ((List.find? _ ((o + (headB x c w).length + 2, (c, w)) :: headsOf r (o + (Item.seg x c w).bytes.length))).map (·.2)) = if k = (headB x c w).length + 2 ∧ true = true then some (c, w) else if k < (Item.seg x c w).bytes.length then none else lookH r (k - (Item.seg x c w).bytes.length)
    rw [List.find?_cons]
    by_cases h1 : k = (headB x c w).length + 2
    · rw [if_pos ⟨h1, rfl⟩]
      have : decide (o + (headB x c w).length + 2 = o + k) = true := decide_eq_true (by omega)
      simp only [this]
      rfl
    · rw [if_neg fun q => h1 q.1]
      have : decide (o + (headB x c w).length + 2 = o + k) = false := decide_eq_false (by omega)
      simp only [this]
      by_cases h2 : k < (Item.seg x c w).bytes.length
      · rw [if_pos h2]
        exact find_low r _ _ (by omega)
      · rw [if_neg h2]
        have ih := find_heads r (o + (Item.seg x c w).bytes.length) (k - (Item.seg x c w).bytes.length)
        have e : o + (Item.seg x c w).bytes.length + (k - (Item.seg x c w).bytes.length) = o + k := by omega
        rw [e] at ih
        exact ih
  | .tail x :: r, o, k => by
    show findH (headsOf r (o + (Item.tail x).bytes.length)) (o + k) = if k = x.length + 2 ∧ false = true then _ else if k < (Item.tail x).bytes.length then none else lookH r (k - (Item.tail x).bytes.length)
    rw [if_neg fun q => Bool.false_ne_true q.2]
    by_cases h2 : k < (Item.tail x).bytes.length
    · rw [if_pos h2]
      exact find_low r _ _ (by omega)
    · rw [if_neg h2]
      have ih := find_heads r (o + (Item.tail x).bytes.length) (k - (Item.tail x).bytes.length)
      have e : o + (Item.tail x).bytes.length + (k - (Item.tail x).bytes.length) = o + k := by omega
      rw [e] at ih
      exact ih

/-! ## what the law asks -/
theorem law_cut {its : List Item} (h : ∀ i ∈ its, i.Ok) {k : Nat} (hk : k ≤ (flat its).length) {o : Option (Int × Bool)} (w : Wanted ((flat its).take k) 0 o) : o = castH (findH (headsOf its 0) k) := by
  have h1 := wanted_cut its [] k h hk
  have h2 := find_heads its 0 k
  rw [Nat.zero_add] at h2
  rw [h2]
  exact w.unique h1
theorem law_begin {its : List Item} (h : ∀ i ∈ its, i.Ok) {i a b : Nat} (ha : (0 :: beginsOf its 0)[i]? = some a) (hb : (0 :: beginsOf its 0)[i + 1]? = some b) {r : Int × Option (Int × Bool)} (c : CmdEnd (flat its) a r) : r = ((b : Int), none) :=
  c.unique (begins_pairs its [] 0 h (fun _ q => q) i a b ha hb)
theorem law_end {d : List UInt8} {r : Int × Option (Int × Bool)} (c : CmdEnd d d.length r) : r = (-1, none) :=
  c.unique (.none (by rw [List.drop_length]; rfl))
end Mine

/-! loop -/
namespace Mine
open PySem PySem.W PySem.Calls PyProof.Rows PyProof.V PySem.Spec PySem.Builtin
set_option maxRecDepth 100000
set_option maxHeartbeats 8000000

/-! ## a loop over a range, its state by names and ledger -/
theorem off_of {h₀ h : Heap} {L I : Addr} {it : Obj} {nx : List (Addr × Obj)} (N : News h₀ L h ((I, it) :: nx)) (hc : ∀ p ∈ nx, p.2.cls ≠ it.cls) : ∀ p ∈ nx, p.1 ≠ I := by
  intro p hp e
  have h1 := (N (I, it) (.head _)).1
  have h2 := (N p (.tail _ hp)).1
  rw [e] at h2
  exact hc p hp (congrArg Obj.cls (Option.some.inj (h2.symm.trans h1)))
def RkEnd (h₀ : Heap) (L : Addr) (s : Shared) (I : Addr) (it : Obj) (J : List (PySem.Str × Value) → List (Addr × Obj) → Prop) (s' : Shared) : Prop :=
  ∃ (h' : Heap) (tk' : Nat) (m' : PySem.Str → Option Value) (ps : List (PySem.Str × Value)) (nx : List (Addr × Obj)), s' = { s with heap := h', toks := tk' } ∧ Fr h₀ L h' m' ∧ (∀ p ∈ ps, m' p.1 = some p.2) ∧ News h₀ L h' ((I, it) :: nx) ∧ (∀ p ∈ nx, p.1 ≠ I) ∧ J ps nx
def RkPost (h₀ : Heap) (L : Addr) (s : Shared) (I : Addr) (it : Obj) (J : List (PySem.Str × Value) → List (Addr × Obj) → Prop) (Q : Flow → Shared → Prop) (f : Flow) (s' : Shared) : Prop :=
  match f with
  | .ret v => Q (.ret v) s'
  | .brk => Q .next s'
  | _ => RkEnd h₀ L s I it J s'
theorem range_keep {prog : Program} {w : World} {A : Around} {E : Value → Shared → Prop} {s : Shared} {env : Env} {h₀ : Heap} {x : PySem.Str} {body : List Stmt} {Q : Flow → Shared → Prop} {r : Addr} {b : Int} {t₀ u₀ v₀ : Tok} {m : PySem.Str → Option Value} {news : List (Addr × Obj)}
    (J : Nat → List (PySem.Str × Value) → List (Addr × Obj) → Prop) (n : Nat) (hr : IsRange s.heap r 0 b 1 t₀ u₀ v₀) (hb : b = (n : Int)) (hn : n < 2 ^ 61) (F : Fr h₀ env.locals s.heap m) (N : News h₀ env.locals s.heap news)
    (ps : List (PySem.Str × Value)) (nx : List (Addr × Obj)) (hk : ∀ p ∈ ps, m p.1 = some p.2) (hs : ∀ p ∈ nx, p ∈ news) (hx : ∀ i ps nx, J i ps nx → ∀ p ∈ ps, p.1 ≠ x) (hj : J 0 ps nx)
    (turn : ∀ (i : Nat) (I : Addr) (t : Tok) ps nx u h tk, i < n → (∀ p ∈ news, p.1 < I) → J i ps nx → Fr h₀ env.locals h (kstB u ((x, .int (i : Int) t) :: ps)) → News h₀ env.locals h ((I, itR ((i : Int) + 1) ((n : Int) - ((i : Int) + 1))) :: nx) →
      wpAny (model prog w) A (execs body env) (RkPost h₀ env.locals s I (itR ((i : Int) + 1) ((n : Int) - ((i : Int) + 1))) (J (i + 1)) Q) E { s with heap := h, toks := tk })
    (done : ∀ ps nx u h tk, J n ps nx → Fr h₀ env.locals h (kstB u ps) → News h₀ env.locals h nx → Q .next { s with heap := h, toks := tk })
    (hh : A.handled = none := by rfl) :
    wpAny (model prog w) A (pyIter (.ref r)) (fun it s₂ => LoopAtV prog w A h₀ env x body Q E it s₂) E s := by
  subst hb
  have e62 : (2 : Int) ^ 62 = 4611686018427387904 := by decide
  have e61 : (2 : Nat) ^ 61 = 2305843009213693952 := by decide
  rw [e61] at hn
  have hsm : Builtin.Range.small 0 (n : Int) 1 = true := small_one (by rw [e62]; omega) (by rw [e62]; omega) (by rw [e62]; omega) (by rw [e62]; omega)
  have hsz : Builtin.Range.rangeSize 0 (n : Int) 1 = (n : Int) := by rw [rangeSize_nat]; omega
  refine iter_rangeUnr hh hr hsm hsz F N fun I hI => ?_
  have key : ∀ (k i : Nat) (m' : PySem.Str → Option Value) (all : List (Addr × Obj)), i + k = n → (∃ ps nx, (∀ p ∈ ps, m' p.1 = some p.2) ∧ (∀ p ∈ nx, p ∈ all) ∧ J i ps nx) → RangeRest prog w A E h₀ env x body Q s I 0 n k i m' all := by
    intro k
    induction k with
    | zero =>
      rintro i m' all e ⟨ps, nx, hk', hs', hj'⟩
      have e' : i = n := by omega
      subst e'
      exact RangeRest.zero fun h tk F' N' => done ps nx m' h tk hj' (frKeep F' hk') fun p hp => N' p (hs' p hp)
    | succ k ih =>
      rintro i m' all e ⟨ps, nx, hk', hs', hj'⟩
      refine RangeRest.succ fun t h tk F' N' => ?_
      have e0 : (0 : Int) + (i : Int) = (i : Int) := Int.zero_add _
      have e1 : (0 : Int) + ((i + 1 : Nat) : Int) = (i : Int) + 1 := by omega
      have e2 : (n : Int) - ((i + 1 : Nat) : Int) = (n : Int) - ((i : Int) + 1) := by omega
      rw [e0] at F'
      rw [e1, e2] at N' ⊢
      have F2 := frKeep (ps := (x, .int (i : Int) t) :: ps) F' (List.forall_mem_cons.mpr ⟨if_pos rfl, fun p hp => by rw [if_neg (hx i ps nx hj' p hp)]; exact hk' p hp⟩)
      refine wpAny_mono (turn i I t ps nx _ h tk (by omega) hI hj' F2 fun p hp => ?_) (fun f s₂ q => ?_) fun _ _ y => y
      · rcases List.mem_cons.mp hp with rfl | hp
        · exact N' _ (.head _)
        · exact N' p (.tail _ (hs' p hp))
      · have fin : RkEnd h₀ env.locals s I (itR ((i : Int) + 1) ((n : Int) - ((i : Int) + 1))) (J (i + 1)) s₂ → UnrEnd h₀ env.locals { s with heap := h, toks := tk } I (itR ((i : Int) + 1) ((n : Int) - ((i : Int) + 1))) (RangeRest prog w A E h₀ env x body Q s I 0 n k (i + 1)) s₂ := by
          rintro ⟨h', tk', m₂, ps', nx', rfl, F3, hk3, N3, ho, hj3⟩
          exact ⟨h', tk', m₂, nx', rfl, F3, N3, ho, ih (i + 1) m₂ nx' (by omega) ⟨ps', nx', hk3, fun p hp => hp, hj3⟩⟩
        cases f with
        | ret v => exact q
        | brk => exact q
        | next => exact fin q
        | cont => exact fin q
  exact key n 0 m news (by omega) ⟨ps, nx, hk, hs, hj⟩

/-! ## rules -/
section
variable {prog : Program} {w : World} {A : Around} {E : Value → Shared → Prop} {s : Shared} {h₀ : Heap} {L : Addr} {m : PySem.Str → Option Value} {news : List (Addr × Obj)} {value slice : PySem.Expr}
theorem any_item {Q : Value → Shared → Prop} {l : Addr} {vs : List Value} {ns : List Int} {nn : Nat} {i : Int} {u : Tok} (N : News h₀ L s.heap news) (hm : (l, W.listOf vs.toArray nn) ∈ news) (hi : IntsAre vs ns) (h0 : 0 ≤ i) (h1 : i < (ns.length : Int)) (h2 : ns.length < 2 ^ 62)
    (h : ∀ v t, ns[i.toNat]? = some v → Q (.int v t) s)
    (hs : subscripted slice false (.ref l) (.int i u) = operate [.ref l, .int i u] (getItem (.ref l) (.int i u)) := by with_unfolding_all rfl) :
    wpAny (model prog w) A (subscriptTail value slice (.ref l) (.int i u)) Q E s := by
  have e62 : (2 : Nat) ^ 62 = 4611686018427387904 := by decide
  rw [e62] at h2
  have hl : s.heap.IsList l vs.toArray := ⟨_, (N _ hm).1, rfl, nn, rfl⟩
  obtain ⟨t, hx⟩ := hi.get i.toNat (ns[i.toNat]'(by omega)) (by simp)
  exact tail_any hl.typeIs slot_list_getitem.lookup (wpAny_getItem_list hl h0 (by omega) (by simpa using hx) (h _ t (by simp))) hs
theorem menu_item {Q : Value → Shared → Prop} {l : Addr} {vs : List Value} {nn : Nat} {i : Int} {u : Tok} (ms : List (List UInt8)) (N : News h₀ L s.heap news) (hm : (l, W.listOf vs.toArray nn) ∈ news) (h0 : 0 ≤ i) (h1 : i < (vs.length : Int)) (h2 : vs.length < 2 ^ 62)
    (hv : ∀ v ∈ vs, ∃ x t, v = .bytes (List.toArray x) t ∧ x ∈ ms) (h : ∀ x t, x ∈ ms → Q (.bytes (List.toArray x) t) s)
    (hs : subscripted slice false (.ref l) (.int i u) = operate [.ref l, .int i u] (getItem (.ref l) (.int i u)) := by with_unfolding_all rfl) :
    wpAny (model prog w) A (subscriptTail value slice (.ref l) (.int i u)) Q E s := by
  have e62 : (2 : Nat) ^ 62 = 4611686018427387904 := by decide
  rw [e62] at h2
  have hl : s.heap.IsList l vs.toArray := ⟨_, (N _ hm).1, rfl, nn, rfl⟩
  obtain ⟨x, t, e, hx⟩ := hv (vs[i.toNat]'(by omega)) (List.getElem_mem _)
  refine tail_any hl.typeIs slot_list_getitem.lookup (wpAny_getItem_list (x := .bytes x.toArray t) hl h0 (by omega) (by rw [← e]; simp) (h x t hx)) hs
theorem add_K {Q : Value → Shared → Prop} {a b : List UInt8} {t u : Tok} (hsz : a.length + b.length ≤ 16777216) (h : ∀ t' k, Q (.bytes (a ++ b).toArray t') { s with toks := k }) :
    wpAny (model prog w) A (binaryOp .Add (.bytes a.toArray t) (.bytes b.toArray u)) Q E s :=
  KBy.add_bytes (by rw [List.size_toArray, List.size_toArray]; exact hsz) fun t' k => by
    rw [List.append_toArray]
    exact h t' k
theorem put_K {Q : Unit → Shared → Prop} {d : Addr} {o : Obj} {kvs : List (Int × Value)} {k : Int} {tk : Tok} {v : Value} (F : Fr h₀ L s.heap m) (N : News h₀ L s.heap news) (hm : (d, o) ∈ news) (hd : o.IsDictOf (intKind prog w) kvs) (hsz : kvs.length ≤ 16777216)
    (h : ∀ h' o', Fr h₀ L h' m → (∀ keep : List (Addr × Obj), (∀ p ∈ keep, p ∈ news ∧ p.1 ≠ d) → News h₀ L h' ((d, o') :: keep)) → o'.IsDictOf (intKind prog w) (stored kvs k v) → Q () { s with heap := h', toks := s.toks + 1 }) :
    wpAny (model prog w) A (setItem (.ref d) (.int k tk) v) Q E s := by
  have hN := N (d, o) hm
  refine wpAny_setItem_pairs (hsz := by rw [sizeLine_eq]; exact hsz) (intKind_is _ _ _ _) (Heap.dictOf_iff.mpr ⟨o, hN.1, hd⟩) fun h' hmm hs => ?_
  obtain ⟨o', ho', hd'⟩ := Heap.dictOf_iff.mp hmm
  refine h h' o' (F.change hs hN.2.1 hN.2.2) (fun keep hk p hp => ?_) hd'
  rcases List.mem_cons.mp hp with rfl | hp
  · exact ⟨ho', hN.2⟩
  · have hp' := hk p hp
    exact ⟨(hs.2 p.1 hp'.2).trans (N p hp'.1).1, (N p hp'.1).2⟩
theorem push_K {Q : Value → Shared → Prop} {D : Addr} {vs : List Value} {n : Nat} {x : Value} (F : Fr h₀ L s.heap m) (N : News h₀ L s.heap news) (hm : (D, W.listOf vs.toArray n) ∈ news) (hsz : vs.length ≤ 16777216)
    (h : ∀ h', Fr h₀ L h' m → (∀ keep : List (Addr × Obj), (∀ p ∈ keep, p ∈ news ∧ p.1 ≠ D) → News h₀ L h' ((D, W.listOf (vs ++ [x]).toArray (n + 1)) :: keep)) → Q .none { s with heap := h' }) :
    wpAny (model prog w) A (call (.builtin "list.append") [.ref D, x]) Q E s := by
  have hN := N (D, W.listOf vs.toArray n) hm
  refine append_at (hsz := by rw [List.size_toArray, sizeLine_eq]; exact hsz) hN.1 fun h' hs ho' => h h' (F.change hs hN.2.1 hN.2.2) fun keep hk p hp => ?_
  rw [List.push_toArray] at ho'
  rcases List.mem_cons.mp hp with rfl | hp
  · exact ⟨ho', hN.2⟩
  · have hp' := hk p hp
    exact ⟨(hs.2 p.1 hp'.2).trans (N p hp'.1).1, (N p hp'.1).2⟩
theorem same_ne {Q : Value → Shared → Prop} {a b : Value} {d : PyData} {as bs : List Addr} (ra : Reads s.heap a d as) (rb : Reads s.heap b d bs) (hd : SeqAt.shaped d = true) (he : PyData.eqv d d = true) (hu : A.units + 64 < cLine) (h : Q (.bool false) s) :
    wpAny (model prog w) A (compareOp .NotEq a b) Q E s :=
  ne_dataH ra rb hd hd hu (by rw [he]; exact h)
end
end Mine

/-! state -/
namespace Mine
open PySem PySem.W PySem.Calls PyProof.Rows PyProof.V PySem.Spec PySem.Builtin
set_option maxRecDepth 100000
set_option maxHeartbeats 8000000

/-! ## a figure's octet -/
theorem seven {a : Int} (h0 : 0 ≤ a) (h1 : a < 7) : a = 0 ∨ a = 1 ∨ a = 2 ∨ a = 3 ∨ a = 4 ∨ a = 5 ∨ a = 6 := by omega
theorem gives_enc {a : Int} (h0 : 0 ≤ a) (h1 : a < 7) (t u : Tok) : Gives («str.encode» ⟨[.str (PySem.Str.ofString (toString a)) t, .str (PySem.Str.ofString "ascii") u], []⟩) (.bytes [UInt8.ofNat (48 + a.toNat)].toArray) := by
  rcases seven h0 h1 with e | e | e | e | e | e | e <;> subst e <;> exact .of_eq (by kernel_rfl)
theorem log_small {a : Int} (h0 : 0 ≤ a) (h1 : a < 7) : a.natAbs.log2 < 1920 := by
  rcases seven h0 h1 with e | e | e | e | e | e | e <;> subst e <;> decide
section
variable {prog : Program} {w : World} {A : Around} {E : Value → Shared → Prop} {s : Shared}
theorem str_K {Q : Value → Shared → Prop} {a : Int} {t : Tok} (h0 : 0 ≤ a) (h1 : a < 7) (h : ∀ t' k, Q (.str (PySem.Str.ofString (toString a)) t') { s with toks := k }) : wpAny (model prog w) A (call (.type "str") [.int a t]) Q E s :=
  P.str_of_int (log_small h0 h1) (h _ _)
theorem enc_K {Q : Value → Shared → Prop} {a : Int} {t u : Tok} (h0 : 0 ≤ a) (h1 : a < 7) (h : ∀ t' k, Q (.bytes [UInt8.ofNat (48 + a.toNat)].toArray t') { s with toks := k }) :
    wpAny (model prog w) A (call (.builtin "str.encode") [.str (PySem.Str.ofString (toString a)) t, .str (PySem.Str.ofString "ascii") u]) Q E s :=
  call_meets F.slot_str_encode (typeIs_str _ _ _) F.entry_str_encode (F.args_str_encode_2 _ _) (gives_enc h0 h1 t u).meets ⟨by rw [sizeLine_eq]; exact Nat.le_of_ble_eq_true rfl, h _ _⟩
theorem enc_method {M : Model} {x : PySem.Str} {t : Tok} {pl : Sem Bool} {Q : Value × List Value → Shared → Prop} (h : Q (.builtin "str.encode", [.str x t]) s) : wpAny M A (getMethod (.str x t) "encode" pl) Q E s := by
  with_reducible exact getMethod_builtin (typeIs_str _ _ _) F.plainAttrs_str F.slot_str_encode F.type_str_encode (fun _ e => nomatch e) h
end

/-! ## the dict of heads -/
inductive HeadsAre (tl : List (Addr × Obj)) : List (Int × Value) → List (Nat × (Nat × Bool)) → Prop where
  | nil : HeadsAre tl [] []
  | cons {k c : Nat} {w : Bool} {q : Addr} {u : Tok} {kvs : List (Int × Value)} {hs : List (Nat × (Nat × Bool))} : (q, tup [.int (c : Int) u, .bool w]) ∈ tl → HeadsAre tl kvs hs → HeadsAre tl (((k : Int), .ref q) :: kvs) ((k, (c, w)) :: hs)
theorem HeadsAre.mono {tl tl' : List (Addr × Obj)} (hs : ∀ p ∈ tl, p ∈ tl') : ∀ {kvs : List (Int × Value)} {l : List (Nat × (Nat × Bool))}, HeadsAre tl kvs l → HeadsAre tl' kvs l
  | _, _, .nil => .nil
  | _, _, .cons hm r => .cons (hs _ hm) (HeadsAre.mono hs r)
theorem HeadsAre.snoc {tl : List (Addr × Obj)} {k c : Nat} {w : Bool} {q : Addr} {u : Tok} (hm : (q, tup [.int (c : Int) u, .bool w]) ∈ tl) : ∀ {kvs : List (Int × Value)} {l : List (Nat × (Nat × Bool))}, HeadsAre tl kvs l → HeadsAre tl (kvs ++ [((k : Int), .ref q)]) (l ++ [(k, (c, w))])
  | _, _, .nil => .cons hm .nil
  | _, _, .cons h r => .cons h (HeadsAre.snoc hm r)
theorem HeadsAre.length {tl : List (Addr × Obj)} : ∀ {kvs : List (Int × Value)} {l : List (Nat × (Nat × Bool))}, HeadsAre tl kvs l → kvs.length = l.length
  | _, _, .nil => rfl
  | _, _, .cons _ r => congrArg (· + 1) r.length
theorem HeadsAre.key {tl : List (Addr × Obj)} : ∀ {kvs : List (Int × Value)} {l : List (Nat × (Nat × Bool))}, HeadsAre tl kvs l → ∀ p ∈ kvs, ∃ q ∈ l, p.1 = ((q.1 : Nat) : Int)
  | _, _, .nil, _, hp => nomatch hp
  | _, _, .cons _ r, p, hp => by
    rcases List.mem_cons.mp hp with rfl | hp
    · exact ⟨_, .head _, rfl⟩
    · obtain ⟨q, hq, e⟩ := r.key p hp
      exact ⟨q, .tail _ hq, e⟩
/-- what the dict says of a key -/
inductive GetIn (tl : List (Addr × Obj)) : Value → Option (Nat × Bool) → Prop where
  | none : GetIn tl .none none
  | some {c : Nat} {w : Bool} {q : Addr} {u : Tok} : (q, tup [.int (c : Int) u, .bool w]) ∈ tl → GetIn tl (.ref q) (some (c, w))
theorem HeadsAre.get {tl : List (Addr × Obj)} (k : Nat) : ∀ {kvs : List (Int × Value)} {l : List (Nat × (Nat × Bool))}, HeadsAre tl kvs l → GetIn tl ((valueAt kvs (k : Int)).getD .none) (findH l k)
  | _, _, .nil => .none
  | _, _, .cons (k := k') (kvs := kvs) (hs := hs) hm r => by
    have ih := r.get k
    unfold valueAt findH at ih ⊢
    rw [List.find?_cons, List.find?_cons]
    by_cases e : k' = k
    · subst e
      simp only [decide_true]
      exact .some hm
    · have e1 : decide ((k' : Int) = (k : Int)) = false := decide_eq_false (by omega)
      have e2 : decide (k' = k) = false := decide_eq_false e
      simp only [e1, e2]
      exact ih
theorem heads_length : ∀ (a : List Item) (o : Nat), (headsOf a o).length ≤ a.length
  | [], _ => Nat.le_refl _
  | .seg _ _ _ :: r, o => by
    show (headsOf r _).length + 1 ≤ r.length + 1
    have := heads_length r
    exact Nat.succ_le_succ (this _)
  | .tail _ :: r, o => Nat.le_succ_of_le (heads_length r _)
theorem begins_length : ∀ (a : List Item) (o : Nat), (beginsOf a o).length ≤ a.length
  | [], _ => Nat.le_refl _
  | .seg _ _ _ :: r, o => Nat.le_succ_of_le (begins_length r _)
  | .tail _ :: r, o => Nat.succ_le_succ (begins_length r _)
theorem stored_new {kvs : List (Int × Value)} {k : Int} {v : Value} (h : ∀ p ∈ kvs, p.1 ≠ k) : stored kvs k v = kvs ++ [(k, v)] := by
  unfold stored
  rw [if_neg]
  intro q
  obtain ⟨p, hp, e⟩ := List.any_eq_true.mp q
  exact h p hp (of_decide_eq_true e)

def castN (l : List Nat) : List Int := l.map fun (n : Nat) => (n : Int)

/-! ## the state of the building -/
def Built (prog : Program) (w : World) (kp : List (Addr × Obj)) (its : List Item) (T : Int) (ps : List (PySem.Str × Value)) (nx : List (Addr × Obj)) : Prop :=
  ∃ (lb dh lc : Addr) (ws : List Value) (cs : List Int) (tD tT : Tok) (bs : List Value) (nb : Nat) (ob : Obj) (kvs : List (Int × Value)) (tl : List (Addr × Obj)),
    ps = [(PySem.Str.ofString "data", .bytes (flat its).toArray tD), (PySem.Str.ofString "heads", .ref dh), (PySem.Str.ofString "begins", .ref lb), (PySem.Str.ofString "turn", .int T tT), (PySem.Str.ofString "cells", .ref lc)] ∧
    nx = (lb, W.listOf bs.toArray nb) :: (dh, ob) :: (lc, W.listOf ws.toArray 0) :: (kp ++ tl) ∧
    IntsAre ws cs ∧ 3 ≤ cs.length ∧ cs.length ≤ 63 ∧ IntsAre bs (castN (0 :: beginsOf its 0)) ∧ ob.IsDictOf (intKind prog w) kvs ∧ (dh == sysModules) = false ∧ lb ≠ lc ∧ HeadsAre tl kvs (headsOf its 0) ∧
    (∀ p ∈ tl, p.2.cls = .type "tuple") ∧ (∀ i ∈ its, i.Ok) ∧ 0 ≤ T
theorem cells_some {ws : List Value} {xs : List Int} (hI : IntsAre ws (xs ++ [2, 1, 3])) (h : xs.length ≤ 60) : ∃ cs, IntsAre ws cs ∧ 3 ≤ cs.length ∧ cs.length ≤ 63 :=
  ⟨_, hI, by simp, by simp; omega⟩
theorem built_start {prog : Program} {w : World} {lb dh lc : Addr} {ws : List Value} {cs : List Int} {ob : Obj} {tD tT tB : Tok} (hI : IntsAre ws cs) (h3 : 3 ≤ cs.length) (h63 : cs.length ≤ 63) (hd : ob.IsDictOf (intKind prog w) []) (lo : (dh == sysModules) = false) (hne : lb ≠ lc) :
    Built prog w [] [] 0 [(PySem.Str.ofString "data", .bytes #[] tD), (PySem.Str.ofString "heads", .ref dh), (PySem.Str.ofString "begins", .ref lb), (PySem.Str.ofString "turn", .int 0 tT), (PySem.Str.ofString "cells", .ref lc)]
      [(lb, W.listOf #[.int 0 tB] 0), (dh, ob), (lc, W.listOf ws.toArray 0)] :=
  ⟨lb, dh, lc, ws, cs, tD, tT, [.int 0 tB], 0, ob, [], [], rfl, rfl, hI, h3, h63, .cons _ _ .nil, hd, lo, hne, .nil, (fun _ h => nomatch h), (fun _ h => nomatch h), Int.le_refl _⟩
theorem built_names {prog : Program} {w : World} {kp : List (Addr × Obj)} {its : List Item} {T : Int} {ps : List (PySem.Str × Value)} {nx : List (Addr × Obj)} (b : Built prog w kp its T ps nx) {x : PySem.Str}
    (hx : ([PySem.Str.ofString "data", PySem.Str.ofString "heads", PySem.Str.ofString "begins", PySem.Str.ofString "turn", PySem.Str.ofString "cells"].all fun y => !(y == x)) = true) : ∀ p ∈ ps, p.1 ≠ x := by
  obtain ⟨lb, dh, lc, ws, cs, tD, tT, bs, nb, ob, kvs, tl, rfl, _⟩ := b
  intro p hp e
  simp only [List.all_cons, List.all_nil, Bool.and_true, Bool.and_eq_true, Bool.not_eq_true', beq_eq_false_iff_ne] at hx
  simp only [List.mem_cons, List.not_mem_nil, or_false] at hp
  rcases hp with rfl | rfl | rfl | rfl | rfl
  · exact hx.1 e
  · exact hx.2.1 e
  · exact hx.2.2.1 e
  · exact hx.2.2.2.1 e
  · exact hx.2.2.2.2 e
theorem dict_cls {prog : Program} {w : World} {o : Obj} {kvs : List (Int × Value)} (h : o.IsDictOf (intKind prog w) kvs) : o.cls = .type "dict" := by
  obtain ⟨es, ep, h⟩ := h
  exact h.1.1
end Mine

/-! outer -/
namespace Mine
open PySem PySem.W PySem.Calls PyProof.Rows PyProof.V PySem.Spec PySem.Builtin
set_option maxRecDepth 100000
set_option maxHeartbeats 8000000

def BPost (h₀ : Heap) (L : Addr) (s : Shared) (I : Addr) (it : Obj) (J : List (PySem.Str × Value) → List (Addr × Obj) → Prop) (f : Flow) (s' : Shared) : Prop := f = .next ∧ RkEnd h₀ L s I it J s'
section
variable {prog : Program} {w : World} {A : Around} {E : Value → Shared → Prop} {s : Shared} {env : Env} {h₀ : Heap} {x : PySem.Str} {body : List Stmt} {Q : Flow → Shared → Prop} {r : Addr} {t₀ u₀ v₀ : Tok} {m : PySem.Str → Option Value} {news : List (Addr × Obj)}

theorem BPost.rk {L : Addr} {I : Addr} {it : Obj} {J : List (PySem.Str × Value) → List (Addr × Obj) → Prop} {f : Flow} {s' : Shared} (b : BPost h₀ L s I it J f s') : RkPost h₀ L s I it J Q f s' := by
  obtain ⟨rfl, b⟩ := b
  exact b
theorem mod_any {Q : Value → Shared → Prop} {a n : Int} {t u : Tok} (hn : 0 < n) (h : ∀ v t' k, 0 ≤ v → v < n → Q (.int v t') { s with toks := k }) : wpAny (model prog w) A (binaryOp .Mod (.int a t) (.int n u)) Q E s :=
  mod_int' (by omega) (h _ _ _ (fmod_lo a hn) (fmod_hi a hn))
/-- a state of the building, out of a frame and a ledger -/
theorem built_of {lb dh lc : Addr} {ws : List Value} {cs : List Int} {ob : Obj} {tD tT : Tok} {bs : List Value} {nb : Nat} {kvs : List (Int × Value)} {kp tl : List (Addr × Obj)} {its : List Item} {T : Int} {dB : List UInt8} {L : Addr} {h : Heap}
    (F : Fr h₀ L h m) (N : News h₀ L h news) (h1 : m (PySem.Str.ofString "data") = some (.bytes dB.toArray tD)) (h2 : m (PySem.Str.ofString "heads") = some (.ref dh)) (h3 : m (PySem.Str.ofString "begins") = some (.ref lb)) (h4 : m (PySem.Str.ofString "turn") = some (.int T tT)) (h5 : m (PySem.Str.ofString "cells") = some (.ref lc))
    (eD : dB = flat its) (m1 : (lb, W.listOf bs.toArray nb) ∈ news) (m2 : (dh, ob) ∈ news) (m3 : (lc, W.listOf ws.toArray 0) ∈ news) (mk : ∀ p ∈ kp, p ∈ news) (mt : ∀ p ∈ tl, p ∈ news)
    (hI : IntsAre ws cs) (hc3 : 3 ≤ cs.length) (hc63 : cs.length ≤ 63) (hb : IntsAre bs (castN (0 :: beginsOf its 0))) (hd : ob.IsDictOf (intKind prog w) kvs) (lo : (dh == sysModules) = false) (hne : lb ≠ lc) (hh : HeadsAre tl kvs (headsOf its 0))
    (htl : ∀ p ∈ tl, p.2.cls = .type "tuple") (hok : ∀ i ∈ its, i.Ok) (hT : 0 ≤ T) :
    ∃ ps nx, (∀ p ∈ ps, m p.1 = some p.2) ∧ (∀ p ∈ nx, p ∈ news) ∧ Built prog w kp its T ps nx ∧ News h₀ L h nx ∧ (∀ (I : Addr) (a b : Int), News h₀ L h ((I, itR a b) :: nx) → (∀ p ∈ kp, p.1 ≠ I) → ∀ p ∈ nx, p.1 ≠ I) := by
  subst eD
  have hs : ∀ p ∈ (lb, W.listOf bs.toArray nb) :: (dh, ob) :: (lc, W.listOf ws.toArray 0) :: (kp ++ tl), p ∈ news := by
    intro p hp
    rcases List.mem_cons.mp hp with rfl | hp
    · exact m1
    rcases List.mem_cons.mp hp with rfl | hp
    · exact m2
    rcases List.mem_cons.mp hp with rfl | hp
    · exact m3
    rcases List.mem_append.mp hp with hp | hp
    · exact mk p hp
    · exact mt p hp
  refine ⟨_, _, ?_, hs, ⟨lb, dh, lc, ws, cs, tD, tT, bs, nb, ob, kvs, tl, rfl, rfl, hI, hc3, hc63, hb, hd, lo, hne, hh, htl, hok, hT⟩, fun p hp => N p (hs p hp), ?_⟩
  · intro p hp
    simp only [List.mem_cons, List.not_mem_nil, or_false] at hp
    rcases hp with rfl | rfl | rfl | rfl | rfl
    · exact h1
    · exact h2
    · exact h3
    · exact h4
    · exact h5
  · intro I a b N' hk p hp
    rcases List.mem_cons.mp hp with rfl | hp1
    · exact off_one N' (.head _) (by show Value.type "list" ≠ Value.type "range_iterator"; decide)
    rcases List.mem_cons.mp hp1 with rfl | hp2
    · exact off_one N' (.tail _ (.head _)) (by rw [dict_cls hd]; show Value.type "dict" ≠ Value.type "range_iterator"; decide)
    rcases List.mem_cons.mp hp2 with rfl | hp3
    · exact off_one N' (.tail _ (.tail _ (.head _))) (by show Value.type "list" ≠ Value.type "range_iterator"; decide)
    rcases List.mem_append.mp hp3 with hp4 | hp4
    · exact hk p hp4
    · exact off_one N' hp (by rw [htl p hp4]; show Value.type "tuple" ≠ Value.type "range_iterator"; decide)
where
  off_one {h : Heap} {L I : Addr} {it : Obj} {nx : List (Addr × Obj)} {p : Addr × Obj} (N : News h₀ L h ((I, it) :: nx)) (hp : p ∈ nx) (hc : p.2.cls ≠ it.cls) : p.1 ≠ I := by
    intro e
    have h1 := (N (I, it) (.head _)).1
    have h2 := (N p (.tail _ hp)).1
    rw [e] at h2
    exact hc (congrArg Obj.cls (Option.some.inj (h2.symm.trans h1)))
/-- the end of a building turn -/
theorem built_post {lb dh lc : Addr} {ws : List Value} {cs : List Int} {ob : Obj} {tD tT : Tok} {bs : List Value} {nb : Nat} {kvs : List (Int × Value)} {kp tl : List (Addr × Obj)} {its : List Item} {T : Int} {dB : List UInt8} {L : Addr} {h : Heap} {I : Addr} {a b : Int} {J : List (PySem.Str × Value) → List (Addr × Obj) → Prop} {tk : Nat}
    (F : Fr h₀ L h m) (N : News h₀ L h news) (mI : (I, itR a b) ∈ news) (h1 : m (PySem.Str.ofString "data") = some (.bytes dB.toArray tD)) (h2 : m (PySem.Str.ofString "heads") = some (.ref dh)) (h3 : m (PySem.Str.ofString "begins") = some (.ref lb)) (h4 : m (PySem.Str.ofString "turn") = some (.int T tT)) (h5 : m (PySem.Str.ofString "cells") = some (.ref lc))
    (eD : dB = flat its) (m1 : (lb, W.listOf bs.toArray nb) ∈ news) (m2 : (dh, ob) ∈ news) (m3 : (lc, W.listOf ws.toArray 0) ∈ news) (mk : ∀ p ∈ kp, p ∈ news) (mt : ∀ p ∈ tl, p ∈ news) (mI2 : ∀ p ∈ kp, p.1 ≠ I)
    (hI : IntsAre ws cs) (hc3 : 3 ≤ cs.length) (hc63 : cs.length ≤ 63) (hb : IntsAre bs (castN (0 :: beginsOf its 0))) (hd : ob.IsDictOf (intKind prog w) kvs) (lo : (dh == sysModules) = false) (hne : lb ≠ lc) (hh : HeadsAre tl kvs (headsOf its 0))
    (htl : ∀ p ∈ tl, p.2.cls = .type "tuple") (hok : ∀ i ∈ its, i.Ok) (hT : 0 ≤ T) (hJ : ∀ ps nx, Built prog w kp its T ps nx → J ps nx) :
    BPost h₀ L s I (itR a b) J .next { s with heap := h, toks := tk } := by
  obtain ⟨ps, nx, hk, hs, hB, hN, hoff⟩ := built_of F N h1 h2 h3 h4 h5 eD m1 m2 m3 mk mt hI hc3 hc63 hb hd lo hne hh htl hok hT
  have N2 : News h₀ L h ((I, itR a b) :: nx) := by
    intro p hp
    rcases List.mem_cons.mp hp with rfl | hp
    · exact N _ mI
    · exact hN p hp
  exact ⟨rfl, h, tk, m, ps, nx, rfl, F, hk, N2, hoff I a b N2 mI2, hJ ps nx hB⟩
theorem outer_loop {lb dh lc : Addr} {ws : List Value} {cs : List Int} {ob : Obj} {tD tT tB : Tok} {b : Int} (hr : IsRange s.heap r 0 b 1 t₀ u₀ v₀) (hb0 : 0 ≤ b) (hb3 : b < 3) (F : Fr h₀ env.locals s.heap m) (N : News h₀ env.locals s.heap news)
    (h1 : m (PySem.Str.ofString "data") = some (.bytes #[] tD)) (h2 : m (PySem.Str.ofString "heads") = some (.ref dh)) (h3 : m (PySem.Str.ofString "begins") = some (.ref lb)) (h4 : m (PySem.Str.ofString "turn") = some (.int 0 tT)) (h5 : m (PySem.Str.ofString "cells") = some (.ref lc))
    (m1 : (lb, W.listOf #[.int 0 tB] 0) ∈ news) (m2 : (dh, ob) ∈ news) (m3 : (lc, W.listOf ws.toArray 0) ∈ news) (hI : IntsAre ws cs) (hc3 : 3 ≤ cs.length) (hc63 : cs.length ≤ 63) (hd : ob.IsDictOf (intKind prog w) []) (lo : (dh == sysModules) = false) (hne : lb ≠ lc)
    (hx : ([PySem.Str.ofString "data", PySem.Str.ofString "heads", PySem.Str.ofString "begins", PySem.Str.ofString "turn", PySem.Str.ofString "cells"].all fun y => !(y == x)) = true)
    (turn : ∀ (i : Nat) (I : Addr) (a b : Int) (t : Tok) (its : List Item) (T : Int) ps nx u h tk, i < 2 → Built prog w [] its T ps nx → its.length ≤ 3 * i → Fr h₀ env.locals h (kstB u ((x, .int (i : Int) t) :: ps)) → News h₀ env.locals h ((I, itR a b) :: nx) →
      wpAny (model prog w) A (execs body env) (BPost h₀ env.locals s I (itR a b) (fun ps nx => ∃ its T, Built prog w [] its T ps nx ∧ its.length ≤ 3 * (i + 1))) E { s with heap := h, toks := tk })
    (done : ∀ (its : List Item) (T : Int) ps nx u h tk, Built prog w [] its T ps nx → its.length ≤ 6 → Fr h₀ env.locals h (kstB u ps) → News h₀ env.locals h nx → Q .next { s with heap := h, toks := tk })
    (hh : A.handled = none := by rfl) :
    wpAny (model prog w) A (pyIter (.ref r)) (fun it s₂ => LoopAtV prog w A h₀ env x body Q E it s₂) E s := by
  have e : b = (b.toNat : Int) := by omega
  have hlt' : b.toNat < 3 := by omega
  have e61 : (2 : Nat) ^ 61 = 2305843009213693952 := by decide
  refine range_keep (fun i ps nx => ∃ its T, Built prog w [] its T ps nx ∧ its.length ≤ 3 * i) b.toNat hr e (by rw [e61]; omega) F N _ _ ?_ ?_ (fun i ps nx hb => ?_) ⟨[], 0, built_start (tD := tD) (tT := tT) (tB := tB) (lb := lb) (dh := dh) (lc := lc) hI hc3 hc63 hd lo hne, Nat.le_refl _⟩ ?_ ?_ hh
  · intro p hp
    simp only [List.mem_cons, List.not_mem_nil, or_false] at hp
    rcases hp with rfl | rfl | rfl | rfl | rfl
    · exact h1
    · exact h2
    · exact h3
    · exact h4
    · exact h5
  · intro p hp
    simp only [List.mem_cons, List.not_mem_nil, or_false] at hp
    rcases hp with rfl | rfl | rfl
    · exact m1
    · exact m2
    · exact m3
  · obtain ⟨its, T, hb, _⟩ := hb
    exact built_names hb hx
  · rintro i I t ps nx u h tk hi _ ⟨its, T, hb, hl⟩ F' N'
    exact wpAny_mono (turn i I _ _ t its T ps nx u h tk (by omega) hb hl F' N') (fun f s' q => q.rk) fun _ _ y => y
  · rintro ps nx u h tk ⟨its, T, hb, hl⟩ F' N'
    exact done its T ps nx u h tk hb (by omega) F' N'
theorem inner_loop {lb dh lc : Addr} {ws : List Value} {cs : List Int} {ob : Obj} {tD tT : Tok} {bs : List Value} {nb : Nat} {kvs : List (Int × Value)} {kp tl : List (Addr × Obj)} {its : List Item} {T : Int} {dB : List UInt8} {b : Int} (hr : IsRange s.heap r 0 b 1 t₀ u₀ v₀) (hb0 : 0 ≤ b) (hb3 : b < 3) (F : Fr h₀ env.locals s.heap m) (N : News h₀ env.locals s.heap news)
    (h1 : m (PySem.Str.ofString "data") = some (.bytes dB.toArray tD)) (h2 : m (PySem.Str.ofString "heads") = some (.ref dh)) (h3 : m (PySem.Str.ofString "begins") = some (.ref lb)) (h4 : m (PySem.Str.ofString "turn") = some (.int T tT)) (h5 : m (PySem.Str.ofString "cells") = some (.ref lc))
    (eD : dB = flat its) (m1 : (lb, W.listOf bs.toArray nb) ∈ news) (m2 : (dh, ob) ∈ news) (m3 : (lc, W.listOf ws.toArray 0) ∈ news) (mk : ∀ p ∈ kp, p ∈ news) (mt : ∀ p ∈ tl, p ∈ news)
    (hI : IntsAre ws cs) (hc3 : 3 ≤ cs.length) (hc63 : cs.length ≤ 63) (hb : IntsAre bs (castN (0 :: beginsOf its 0))) (hd : ob.IsDictOf (intKind prog w) kvs) (lo : (dh == sysModules) = false) (hne : lb ≠ lc) (hh : HeadsAre tl kvs (headsOf its 0))
    (htl : ∀ p ∈ tl, p.2.cls = .type "tuple") (hok : ∀ i ∈ its, i.Ok) (hT : 0 ≤ T)
    (hx : ([PySem.Str.ofString "data", PySem.Str.ofString "heads", PySem.Str.ofString "begins", PySem.Str.ofString "turn", PySem.Str.ofString "cells"].all fun y => !(y == x)) = true)
    (turn : ∀ (j : Nat) (I : Addr) (a b : Int) (t : Tok) (its' : List Item) (T : Int) ps nx u h tk, j < 2 → (∀ p ∈ kp, p.1 ≠ I) → Built prog w kp its' T ps nx → its'.length ≤ its.length + j → Fr h₀ env.locals h (kstB u ((x, .int (j : Int) t) :: ps)) → News h₀ env.locals h ((I, itR a b) :: nx) →
      wpAny (model prog w) A (execs body env) (BPost h₀ env.locals s I (itR a b) (fun ps nx => ∃ its' T, Built prog w kp its' T ps nx ∧ its'.length ≤ its.length + (j + 1))) E { s with heap := h, toks := tk })
    (done : ∀ (its' : List Item) (T : Int) ps nx u h tk, Built prog w kp its' T ps nx → its'.length ≤ its.length + 2 → Fr h₀ env.locals h (kstB u ps) → News h₀ env.locals h nx → Q .next { s with heap := h, toks := tk })
    (hA : A.handled = none := by rfl) :
    wpAny (model prog w) A (pyIter (.ref r)) (fun it s₂ => LoopAtV prog w A h₀ env x body Q E it s₂) E s := by
  have e : b = (b.toNat : Int) := by omega
  have hlt' : b.toNat < 3 := by omega
  have e61 : (2 : Nat) ^ 61 = 2305843009213693952 := by decide
  obtain ⟨ps, nx, hk, hs, hB, _, _⟩ := built_of F N h1 h2 h3 h4 h5 eD m1 m2 m3 mk mt hI hc3 hc63 hb hd lo hne hh htl hok hT
  refine range_keep (fun j ps nx => ∃ its' T, Built prog w kp its' T ps nx ∧ its'.length ≤ its.length + j) b.toNat hr e (by rw [e61]; omega) F N ps nx hk hs (fun i ps nx hb => ?_) ⟨its, T, hB, Nat.le_refl _⟩ ?_ ?_ hA
  · obtain ⟨its, T, hb, _⟩ := hb
    exact built_names hb hx
  · rintro i I t ps nx u h tk hi hI' ⟨its', T, hb, hl⟩ F' N'
    exact wpAny_mono (turn i I _ _ t its' T ps nx u h tk (by omega) (fun p hp => Nat.ne_of_lt (hI' p (mk p hp))) hb hl F' N') (fun f s' q => q.rk) fun _ _ y => y
  · rintro ps nx u h tk ⟨its', T, hb, hl⟩ F' N'
    exact done its' T ps nx u h tk hb (by omega) F' N'
end
end Mine

/-! seg -/
namespace Mine
open PySem PySem.W PySem.Calls PyProof.Rows PyProof.V PySem.Spec PySem.Builtin
set_option maxRecDepth 100000
set_option maxHeartbeats 8000000

theorem text_len {x : List UInt8} (h : x ∈ texts) : x.length ≤ 8 := by
  have h1 : (texts.all fun x => decide (x.length ≤ 8)) = true := by decide
  exact of_decide_eq_true (List.all_eq_true.mp h1 x h)
theorem tail_len {x : List UInt8} (h : x ∈ tails) : x.length ≤ 8 := by
  have h1 : (tails.all fun x => decide (x.length ≤ 8)) = true := by decide
  exact of_decide_eq_true (List.all_eq_true.mp h1 x h)
theorem br_yes {v : Int} (h : v = 0) : ([125] : List UInt8) = if (v == 0) = true then [125] else [43, 125] := by rw [h]; rfl
theorem br_no {v : Int} (h : v ≠ 0) : ([43, 125] : List UInt8) = if (v == 0) = true then [125] else [43, 125] := by rw [if_neg (by rw [beq_iff_eq]; exact h)]
theorem seg_data (d x : List UInt8) (n : Nat) (wb : Bool) {br : List UInt8} (e : br = if wb = true then [125] else [43, 125]) :
    d ++ x ++ [123] ++ [UInt8.ofNat (48 + n)] ++ br ++ [13, 10] ++ List.take n [13, 10, 123, 51, 125, 13] = d ++ (Item.seg x n wb).bytes := by
  subst e
  show _ = d ++ ((x ++ (123 :: UInt8.ofNat (48 + n) :: (if wb = true then [125] else [43, 125]))) ++ 13 :: 10 :: litB n)
  simp [litB]
theorem tail_data (d x : List UInt8) : d ++ x ++ [13, 10] = d ++ (Item.tail x).bytes := by
  show _ = d ++ (x ++ 13 :: 10 :: [])
  simp
theorem flat_snoc (a : List Item) (i : Item) : flat (a ++ [i]) = flat a ++ i.bytes := by
  rw [flat_append]
  show flat a ++ (i.bytes ++ []) = _
  rw [List.append_nil]
theorem heads_fresh {tl : List (Addr × Obj)} {kvs : List (Int × Value)} {its : List Item} (hh : HeadsAre tl kvs (headsOf its 0)) {k : Int} (hk : ((flat its).length : Int) < k) : ∀ p ∈ kvs, p.1 ≠ k := by
  intro p hp e
  obtain ⟨q, hq, e2⟩ := hh.key p hp
  have := heads_bound its 0 q hq
  omega
section
variable {prog : Program} {w : World} {A : Around} {E : Value → Shared → Prop} {s : Shared} {h₀ : Heap} {L : Addr} {m : PySem.Str → Option Value}
theorem seg_put {Q : Unit → Shared → Prop} {q l1 I2 lb dh lc I : Addr} {vq : List Value} {v1 : List Value} {bs ws : List Value} {nb n1 : Nat} {ob : Obj} {a2 b2 a b : Int} {tl : List (Addr × Obj)} {kvs : List (Int × Value)} {k : Int} {tk : Tok} {its : List Item}
    (F : Fr h₀ L s.heap m) (N : News h₀ L s.heap ((q, { cls := .type "tuple", data := .seq vq.toArray }) :: (l1, W.listOf v1.toArray n1) :: (I2, itR a2 b2) :: (lb, W.listOf bs.toArray nb) :: (dh, ob) :: (lc, W.listOf ws.toArray 0) :: (I, itR a b) :: tl))
    (hd : ob.IsDictOf (intKind prog w) kvs) (hh : HeadsAre tl kvs (headsOf its 0)) (hits : its.length ≤ 1000) (hk : ((flat its).length : Int) < k) (htl : ∀ p ∈ tl, p.2.cls = .type "tuple")
    (h : ∀ h' o', Fr h₀ L h' m → News h₀ L h' ((I2, itR a2 b2) :: (lb, W.listOf bs.toArray nb) :: (dh, o') :: (lc, W.listOf ws.toArray 0) :: (I, itR a b) :: (q, tup vq) :: tl) → o'.IsDictOf (intKind prog w) (kvs ++ [(k, .ref q)]) → Q () { s with heap := h', toks := s.toks + 1 }) :
    wpAny (model prog w) A (setItem (.ref dh) (.int k tk) (.ref q)) Q E s := by
  have hl : kvs.length ≤ its.length := by
    rw [hh.length]
    exact heads_length its 0
  have off : ∀ p : Addr × Obj, p ∈ ((q, { cls := .type "tuple", data := .seq vq.toArray }) :: (l1, W.listOf v1.toArray n1) :: (I2, itR a2 b2) :: (lb, W.listOf bs.toArray nb) :: (dh, ob) :: (lc, W.listOf ws.toArray 0) :: (I, itR a b) :: tl : List (Addr × Obj)) → p.2.cls ≠ .type "dict" → p.1 ≠ dh := by
    intro p hp hc e
    have h1 := (N _ hp).1
    have h2 := (N (dh, ob) (.tail _ (.tail _ (.tail _ (.tail _ (.head _)))))).1
    rw [e] at h1
    exact hc ((congrArg Obj.cls (Option.some.inj (h1.symm.trans h2))).trans (dict_cls hd))
  refine put_K F N (.tail _ (.tail _ (.tail _ (.tail _ (.head _))))) hd (by omega) fun h' o' F' hN hd' => ?_
  rw [stored_new (heads_fresh hh hk)] at hd'
  have keep : ∀ p ∈ ((q, tup vq) :: (I2, itR a2 b2) :: (lb, W.listOf bs.toArray nb) :: (lc, W.listOf ws.toArray 0) :: (I, itR a b) :: tl : List (Addr × Obj)), p ∈ ((q, { cls := .type "tuple", data := .seq vq.toArray }) :: (l1, W.listOf v1.toArray n1) :: (I2, itR a2 b2) :: (lb, W.listOf bs.toArray nb) :: (dh, ob) :: (lc, W.listOf ws.toArray 0) :: (I, itR a b) :: tl : List (Addr × Obj)) ∧ p.1 ≠ dh := by
    intro p hp
    have both : p ∈ ((q, { cls := .type "tuple", data := .seq vq.toArray }) :: (l1, W.listOf v1.toArray n1) :: (I2, itR a2 b2) :: (lb, W.listOf bs.toArray nb) :: (dh, ob) :: (lc, W.listOf ws.toArray 0) :: (I, itR a b) :: tl : List (Addr × Obj)) ∧ p.2.cls ≠ .type "dict" := by
      rcases List.mem_cons.mp hp with rfl | hp
      · exact ⟨.head _, by show Value.type "tuple" ≠ Value.type "dict"; decide⟩
      rcases List.mem_cons.mp hp with rfl | hp
      · exact ⟨.tail _ (.tail _ (.head _)), by show Value.type "range_iterator" ≠ Value.type "dict"; decide⟩
      rcases List.mem_cons.mp hp with rfl | hp
      · exact ⟨.tail _ (.tail _ (.tail _ (.head _))), by show Value.type "list" ≠ Value.type "dict"; decide⟩
      rcases List.mem_cons.mp hp with rfl | hp
      · exact ⟨.tail _ (.tail _ (.tail _ (.tail _ (.tail _ (.head _))))), by show Value.type "list" ≠ Value.type "dict"; decide⟩
      rcases List.mem_cons.mp hp with rfl | hp
      · exact ⟨.tail _ (.tail _ (.tail _ (.tail _ (.tail _ (.tail _ (.head _)))))), by show Value.type "range_iterator" ≠ Value.type "dict"; decide⟩
      · exact ⟨.tail _ (.tail _ (.tail _ (.tail _ (.tail _ (.tail _ (.tail _ hp)))))), by rw [htl p hp]; decide⟩
    exact ⟨both.1, off p both.1 both.2⟩
  have N2 := hN _ keep
  refine h h' o' F' (fun p hp => N2 p ?_) hd'
  rcases List.mem_cons.mp hp with rfl | hp
  · exact .tail _ (.tail _ (.head _))
  rcases List.mem_cons.mp hp with rfl | hp
  · exact .tail _ (.tail _ (.tail _ (.head _)))
  rcases List.mem_cons.mp hp with rfl | hp
  · exact .head _
  rcases List.mem_cons.mp hp with rfl | hp
  · exact .tail _ (.tail _ (.tail _ (.tail _ (.head _))))
  rcases List.mem_cons.mp hp with rfl | hp
  · exact .tail _ (.tail _ (.tail _ (.tail _ (.tail _ (.head _)))))
  rcases List.mem_cons.mp hp with rfl | hp
  · exact .tail _ (.head _)
  · exact .tail _ (.tail _ (.tail _ (.tail _ (.tail _ (.tail _ hp)))))
theorem seg_post {news : List (Addr × Obj)} {q I2 lb dh lc : Addr} {x br dB : List UInt8} {c : Int} {u : Tok} {wb : Bool} {bs ws : List Value} {cs : List Int} {nb : Nat} {ob : Obj} {a2 b2 k : Int} {kp tl : List (Addr × Obj)} {kvs : List (Int × Value)} {its : List Item} {T : Int} {tD tT : Tok} {h : Heap} {tk bound : Nat}
    (F : Fr h₀ L h m) (N : News h₀ L h news) (hc0 : 0 ≤ c) (hc1 : c < 7) (hx : x ∈ texts) (ebr : br = if wb = true then [125] else [43, 125]) (mI : (I2, itR a2 b2) ∈ news)
    (h1 : m (PySem.Str.ofString "data") = some (.bytes dB.toArray tD)) (h2 : m (PySem.Str.ofString "heads") = some (.ref dh)) (h3 : m (PySem.Str.ofString "begins") = some (.ref lb)) (h4 : m (PySem.Str.ofString "turn") = some (.int (T + 2) tT)) (h5 : m (PySem.Str.ofString "cells") = some (.ref lc))
    (eD : dB = flat its ++ x ++ [123] ++ [UInt8.ofNat (48 + c.toNat)] ++ br ++ [13, 10] ++ List.take c.toNat [13, 10, 123, 51, 125, 13]) (ek : k = ((flat its ++ x ++ [123] ++ [UInt8.ofNat (48 + c.toNat)] ++ br ++ [13, 10]).length : Int))
    (m1 : (lb, W.listOf bs.toArray nb) ∈ news) (m2 : (dh, ob) ∈ news) (m3 : (lc, W.listOf ws.toArray 0) ∈ news) (mq : (q, tup [.int c u, .bool wb]) ∈ news) (mk : ∀ p ∈ kp, p ∈ news) (mt : ∀ p ∈ tl, p ∈ news) (mI2 : ∀ p ∈ kp, p.1 ≠ I2)
    (hI : IntsAre ws cs) (hc3 : 3 ≤ cs.length) (hc63 : cs.length ≤ 63) (hb : IntsAre bs (castN (0 :: beginsOf its 0))) (hd : ob.IsDictOf (intKind prog w) (kvs ++ [(k, .ref q)])) (lo : (dh == sysModules) = false) (hne : lb ≠ lc) (hh : HeadsAre tl kvs (headsOf its 0))
    (htl : ∀ p ∈ tl, p.2.cls = .type "tuple") (hok : ∀ i ∈ its, i.Ok) (hT : 0 ≤ T) (hl : its.length + 1 ≤ bound) :
    BPost h₀ L s I2 (itR a2 b2) (fun ps nx => ∃ its' T, Built prog w kp its' T ps nx ∧ its'.length ≤ bound) .next { s with heap := h, toks := tk } := by
  have en : c = (c.toNat : Int) := by omega
  have eL : (flat its ++ x ++ [123] ++ [UInt8.ofNat (48 + c.toNat)] ++ br ++ [13, 10]).length = 0 + (flat its).length + (headB x c.toNat wb).length + 2 := by
    subst ebr
    unfold headB
    simp only [List.length_append, List.length_cons, List.length_nil]
    omega
  rw [eL] at ek
  subst ek
  refine built_post (kp := kp) (tl := (q, tup [.int c u, .bool wb]) :: tl) (its := its ++ [.seg x c.toNat wb]) (T := T + 2) F N mI h1 h2 h3 h4 h5 ?_ m1 m2 m3 mk ?_ mI2 hI hc3 hc63 ?_ hd lo hne ?_ ?_ ?_ (by omega) ?_
  · rw [eD, seg_data _ _ _ _ ebr, flat_snoc]
  · intro p hp
    rcases List.mem_cons.mp hp with rfl | hp
    · exact mq
    · exact mt p hp
  · rw [begins_snoc_seg]
    exact hb
  · rw [heads_snoc_seg]
    refine HeadsAre.snoc (u := u) ?_ (hh.mono fun p hp => .tail _ hp)
    rw [← en]
    exact .head _
  · intro p hp
    rcases List.mem_cons.mp hp with rfl | hp
    · rfl
    · exact htl p hp
  · intro i hi
    rcases List.mem_append.mp hi with hi | hi
    · exact hok i hi
    · rw [List.mem_singleton.mp hi]
      exact ⟨hx, by omega⟩
  · intro ps nx b
    exact ⟨_, _, b, by rw [List.length_append]; exact hl⟩
end
end Mine

/-! tail -/
namespace Mine
open PySem PySem.W PySem.Calls PyProof.Rows PyProof.V PySem.Spec PySem.Builtin
set_option maxRecDepth 100000
set_option maxHeartbeats 8000000

theorem ints_snoc {vs : List Value} {ns : List Int} (h : IntsAre vs ns) (n : Int) (t : Tok) : IntsAre (vs ++ [Value.int n t]) (ns ++ [n]) := by
  induction h with
  | nil => exact .cons n t .nil
  | cons k u _ ih => exact .cons k u ih
section
variable {prog : Program} {w : World} {A : Around} {E : Value → Shared → Prop} {s : Shared} {h₀ : Heap} {L : Addr} {m : PySem.Str → Option Value}
theorem tail_push {Q : Value → Shared → Prop} {l1 lb dh lc I : Addr} {v1 : List Value} {bs ws : List Value} {cs : List Int} {nb n1 : Nat} {ob : Obj} {a b : Int} {tl : List (Addr × Obj)} {kvs : List (Int × Value)} {x : Value}
    (F : Fr h₀ L s.heap m) (N : News h₀ L s.heap ((l1, W.listOf v1.toArray n1) :: (lb, W.listOf bs.toArray nb) :: (dh, ob) :: (lc, W.listOf ws.toArray 0) :: (I, itR a b) :: tl))
    (hd : ob.IsDictOf (intKind prog w) kvs) (hne : lb ≠ lc) (hb : IntsAre bs cs) (hc : cs.length ≤ 1000) (htl : ∀ p ∈ tl, p.2.cls = .type "tuple")
    (h : ∀ h', Fr h₀ L h' m → News h₀ L h' ((lb, W.listOf (bs ++ [x]).toArray (nb + 1)) :: (dh, ob) :: (lc, W.listOf ws.toArray 0) :: (I, itR a b) :: tl) → Q .none { s with heap := h' }) :
    wpAny (model prog w) A (call (.builtin "list.append") [.ref lb, x]) Q E s := by
  have off : ∀ p : Addr × Obj, p ∈ ((l1, W.listOf v1.toArray n1) :: (lb, W.listOf bs.toArray nb) :: (dh, ob) :: (lc, W.listOf ws.toArray 0) :: (I, itR a b) :: tl : List (Addr × Obj)) → p.2.cls ≠ .type "list" → p.1 ≠ lb := by
    intro p hp hc e
    have h1 := (N _ hp).1
    have h2 := (N (lb, W.listOf bs.toArray nb) (.tail _ (.head _))).1
    rw [e] at h1
    exact hc (congrArg Obj.cls (Option.some.inj (h1.symm.trans h2)))
  have hl := hb.length
  refine push_K F N (.tail _ (.head _)) (by omega) fun h' F' hN => h h' F' (hN _ fun p hp => ?_)
  rcases List.mem_cons.mp hp with rfl | hp
  · exact ⟨.tail _ (.tail _ (.head _)), off _ (.tail _ (.tail _ (.head _))) (by rw [dict_cls hd]; decide)⟩
  rcases List.mem_cons.mp hp with rfl | hp
  · exact ⟨.tail _ (.tail _ (.tail _ (.head _))), hne.symm⟩
  rcases List.mem_cons.mp hp with rfl | hp
  · exact ⟨.tail _ (.tail _ (.tail _ (.tail _ (.head _)))), off _ (.tail _ (.tail _ (.tail _ (.tail _ (.head _))))) (by show Value.type "range_iterator" ≠ Value.type "list"; decide)⟩
  · exact ⟨.tail _ (.tail _ (.tail _ (.tail _ (.tail _ hp)))), off _ (.tail _ (.tail _ (.tail _ (.tail _ (.tail _ hp))))) (by rw [htl p hp]; decide)⟩
theorem tail_post {news : List (Addr × Obj)} {I lb dh lc : Addr} {x dB : List UInt8} {bs ws : List Value} {cs : List Int} {nb : Nat} {ob : Obj} {a b k : Int} {tK : Tok} {tl : List (Addr × Obj)} {kvs : List (Int × Value)} {its : List Item} {T : Int} {tD tT : Tok} {h : Heap} {tk bound : Nat}
    (F : Fr h₀ L h m) (N : News h₀ L h news) (hx : x ∈ tails) (mI : (I, itR a b) ∈ news)
    (h1 : m (PySem.Str.ofString "data") = some (.bytes dB.toArray tD)) (h2 : m (PySem.Str.ofString "heads") = some (.ref dh)) (h3 : m (PySem.Str.ofString "begins") = some (.ref lb)) (h4 : m (PySem.Str.ofString "turn") = some (.int T tT)) (h5 : m (PySem.Str.ofString "cells") = some (.ref lc))
    (eD : dB = flat its ++ x ++ [13, 10]) (ek : k = (dB.length : Int))
    (m1 : (lb, W.listOf (bs ++ [Value.int k tK]).toArray (nb + 1)) ∈ news) (m2 : (dh, ob) ∈ news) (m3 : (lc, W.listOf ws.toArray 0) ∈ news) (mt : ∀ p ∈ tl, p ∈ news)
    (hI : IntsAre ws cs) (hc3 : 3 ≤ cs.length) (hc63 : cs.length ≤ 63) (hb : IntsAre bs (castN (0 :: beginsOf its 0))) (hd : ob.IsDictOf (intKind prog w) kvs) (lo : (dh == sysModules) = false) (hne : lb ≠ lc) (hh : HeadsAre tl kvs (headsOf its 0))
    (htl : ∀ p ∈ tl, p.2.cls = .type "tuple") (hok : ∀ i ∈ its, i.Ok) (hT : 0 ≤ T) (hl : its.length + 1 ≤ bound) :
    BPost h₀ L s I (itR a b) (fun ps nx => ∃ its' T, Built prog w [] its' T ps nx ∧ its'.length ≤ bound) .next { s with heap := h, toks := tk } := by
  have ef : flat (its ++ [.tail x]) = dB := by rw [flat_snoc, ← tail_data, eD]
  refine built_post (kp := []) (tl := tl) (its := its ++ [.tail x]) (T := T) F N mI h1 h2 h3 h4 h5 ef.symm m1 m2 m3 (fun _ hp => nomatch hp) mt (fun _ hp => nomatch hp) hI hc3 hc63 ?_ hd lo hne ?_ htl ?_ hT ?_
  · rw [begins_snoc_tail, ef]
    have e : castN (0 :: (beginsOf its 0 ++ [0 + dB.length])) = castN (0 :: beginsOf its 0) ++ [k] := by
      rw [ek]
      simp [castN]
    rw [e]
    exact ints_snoc hb k tK
  · rw [heads_snoc_tail]
    exact hh
  · intro i hi
    rcases List.mem_append.mp hi with hi | hi
    · exact hok i hi
    · rw [List.mem_singleton.mp hi]
      exact hx
  · intro ps nx b
    exact ⟨_, _, b, by rw [List.length_append]; exact hl⟩
end
end Mine

/-! check -/
namespace Mine
open PySem PySem.W PySem.Calls PyProof.Rows PyProof.V PySem.Spec PySem.Builtin
set_option maxRecDepth 100000
set_option maxHeartbeats 8000000

theorem keep_two {α : Type} {x y z : α} {tl : List α} : ∀ p ∈ x :: y :: tl, p ∈ x :: y :: z :: tl := by
  intro p hp
  rcases List.mem_cons.mp hp with rfl | hp
  · exact .head _
  rcases List.mem_cons.mp hp with rfl | hp
  · exact .tail _ (.head _)
  · exact .tail _ (.tail _ (.tail _ hp))
theorem names_off {ps : List (PySem.Str × Value)} {x : PySem.Str} (h : (ps.all fun p => !(p.1 == x)) = true) : ∀ p ∈ ps, p.1 ≠ x := by
  intro p hp e
  have := List.all_eq_true.mp h p hp
  rw [e] at this
  simp at this
theorem castN_get {l : List Nat} {i : Nat} {v : Int} (h : (castN l)[i]? = some v) : ∃ a : Nat, l[i]? = some a ∧ v = (a : Int) := by
  unfold castN at h
  rw [List.getElem?_map] at h
  cases e : l[i]? with
  | none => rw [e] at h; cases h
  | some a => rw [e] at h; cases h; exact ⟨a, rfl, rfl⟩
theorem begins_bound : ∀ (a : List Item) (o : Nat), ∀ k ∈ beginsOf a o, k ≤ o + (flat a).length
  | [], _, _, hp => nomatch hp
  | .seg x c w :: r, o, k, hp => by
    have e : (flat (Item.seg x c w :: r)).length = (Item.seg x c w).bytes.length + (flat r).length := List.length_append
    have := begins_bound r _ k hp
    omega
  | .tail x :: r, o, k, hp => by
    have e : (flat (Item.tail x :: r)).length = (Item.tail x).bytes.length + (flat r).length := List.length_append
    rcases List.mem_cons.mp hp with rfl | hp
    · omega
    · have := begins_bound r _ k hp
      omega
theorem begin_le {its : List Item} {i a : Nat} (h : (0 :: beginsOf its 0)[i]? = some a) : a ≤ (flat its).length := by
  rcases List.mem_cons.mp (List.mem_of_getElem? h) with rfl | h
  · exact Nat.zero_le _
  · have := begins_bound its 0 a h
    omega
section
variable {prog : Program} {w : World} {A : Around} {E : Value → Shared → Prop} {s : Shared} {h₀ : Heap} {L : Addr} {m : PySem.Str → Option Value} {news : List (Addr × Obj)}
theorem list_len {Q : Value → Shared → Prop} {l : Addr} {vs : List Value} {ns : List Int} {nn : Nat} (N : News h₀ L s.heap news) (hm : (l, W.listOf vs.toArray nn) ∈ news) (hi : IntsAre vs ns) (hl : ns.length ≤ 1000) (h : ∀ t k, Q (.int (ns.length : Int) t) { s with toks := k }) :
    wpAny (model prog w) A (call (.builtin "len") [.ref l]) Q E s := by
  have e63 : (2 : Int) ^ 63 = 9223372036854775808 := by decide
  exact kst_len N hm hi.length (by rw [e63]; omega) (h _ _)
theorem reads_pair {q : Addr} {v1 v2 : Value} {d1 d2 : PyData} (N : News h₀ L s.heap news) (hm : (q, ({ cls := .type "tuple", data := .seq #[v1, v2] } : Obj)) ∈ news) (r1 : Reads s.heap v1 d1 []) (r2 : Reads s.heap v2 d2 []) : Reads s.heap (.ref q) (.tuple [d1, d2]) [] :=
  reads_tuple_at (N _ hm).1 rfl rfl (by
    have h := ReadsAll.cons r1 (ReadsAll.cons r2 ReadsAll.nil)
    simpa using h)
theorem pair_ne {Q : Value → Shared → Prop} {q1 q2 : Addr} {k k' : Int} {t t' : Tok} (N : News h₀ L s.heap news) (m1 : (q1, ({ cls := .type "tuple", data := .seq #[.int k t, .none] } : Obj)) ∈ news) (m2 : (q2, ({ cls := .type "tuple", data := .seq #[.int k' t', .none] } : Obj)) ∈ news)
    (e : k = k') (hu : A.units + 64 < cLine) (h : Q (.bool false) s) : wpAny (model prog w) A (compareOp .NotEq (.ref q1) (.ref q2)) Q E s := by
  subst e
  exact same_ne (reads_pair N m1 (Reads.int k t) Reads.none) (reads_pair N m2 (Reads.int k t') Reads.none) (by rfl) (by simp [PyData.eqv, PyData.eqvAll]) hu h
theorem head_ne {Q : Value → Shared → Prop} {q1 q2 : Addr} {k k' : Int} {t t' : Tok} {b b' : Bool} (N : News h₀ L s.heap news) (m1 : (q1, ({ cls := .type "tuple", data := .seq #[.int k t, .bool b] } : Obj)) ∈ news) (m2 : (q2, tup [.int k' t', .bool b']) ∈ news)
    (e : k = k') (eb : b = b') (hu : A.units + 64 < cLine) (h : Q (.bool false) s) : wpAny (model prog w) A (compareOp .NotEq (.ref q1) (.ref q2)) Q E s := by
  subst e
  subst eb
  exact same_ne (reads_pair N m1 (Reads.int k t) (Reads.bool b)) (reads_pair N m2 (Reads.int k t') (Reads.bool b)) (by rfl) (by simp [PyData.eqv, PyData.eqvAll]) hu h
theorem none_ne {Q : Value → Shared → Prop} (hu : A.units + 64 < cLine) (h : Q (.bool false) s) : wpAny (model prog w) A (compareOp .NotEq .none .none) Q E s :=
  same_ne (d := .none) Reads.none Reads.none (by decide) (by simp [PyData.eqv]) hu h
theorem check_loop {env : Env} {x : PySem.Str} {body : List Stmt} {Q : Flow → Shared → Prop} {r : Addr} {b : Int} {t₀ u₀ v₀ : Tok}
    (n : Nat) (hr : IsRange s.heap r 0 b 1 t₀ u₀ v₀) (hb : b = (n : Int)) (hn : n ≤ 16777216) (F : Fr h₀ env.locals s.heap m) (N : News h₀ env.locals s.heap news)
    (ps : List (PySem.Str × Value)) (nx : List (Addr × Obj)) (hk : ∀ p ∈ ps, m p.1 = some p.2) (hs : ∀ p ∈ nx, p ∈ news) (hx : ∀ p ∈ ps, p.1 ≠ x)
    (turn : ∀ (i : Nat) (I : Addr) (a b : Int) (t : Tok) u h tk, i < n → (∀ p ∈ nx, p.1 ≠ I) → Fr h₀ env.locals h (kstB u ((x, .int (i : Int) t) :: ps)) → News h₀ env.locals h ((I, itR a b) :: nx) →
      wpAny (model prog w) A (execs body env) (BPost h₀ env.locals s I (itR a b) (fun ps' nx' => ps' = ps ∧ nx' = nx)) E { s with heap := h, toks := tk })
    (done : ∀ u h tk, Fr h₀ env.locals h (kstB u ps) → News h₀ env.locals h nx → Q .next { s with heap := h, toks := tk })
    (hh : A.handled = none := by rfl) :
    wpAny (model prog w) A (pyIter (.ref r)) (fun it s₂ => LoopAtV prog w A h₀ env x body Q E it s₂) E s := by
  have e61 : (2 : Nat) ^ 61 = 2305843009213693952 := by decide
  refine range_keep (fun _ ps' nx' => ps' = ps ∧ nx' = nx) n hr hb (by rw [e61]; omega) F N ps nx hk hs (fun i ps' nx' hj => ?_) ⟨rfl, rfl⟩ ?_ ?_ hh
  · rw [hj.1]; exact hx
  · rintro i I t ps' nx' u h tk hi hI ⟨rfl, rfl⟩ F' N'
    exact wpAny_mono (turn i I _ _ t u h tk hi (fun p hp => Nat.ne_of_lt (hI p (hs p hp))) F' N') (fun f s' q => q.rk) fun _ _ y => y
  · rintro ps' nx' u h tk ⟨rfl, rfl⟩ F' N'
    exact done u h tk F' N'
theorem check_post {I : Addr} {a b : Int} {ps : List (PySem.Str × Value)} {nx : List (Addr × Obj)} {h : Heap} {tk : Nat} (F : Fr h₀ L h m) (N : News h₀ L h news) (mI : (I, itR a b) ∈ news) (hk : ∀ p ∈ ps, m p.1 = some p.2) (hs : ∀ p ∈ nx, p ∈ news) (ho : ∀ p ∈ nx, p.1 ≠ I) :
    BPost h₀ L s I (itR a b) (fun ps' nx' => ps' = ps ∧ nx' = nx) .next { s with heap := h, toks := tk } :=
  ⟨rfl, h, tk, m, ps, nx, rfl, F, hk, fun p hp => by
    rcases List.mem_cons.mp hp with rfl | hp
    · exact N _ mI
    · exact N p (hs p hp), ho, rfl, rfl⟩
end
end Mine

/-! main -/
open PySem PySem.W PyProof.Rows Mine
set_option maxRecDepth 100000
set_option maxHeartbeats 8000000

local macro_rules | `(tactic| walk_at "exec For Name Call cons nil") => `(tactic| (refine Stop.go ?_))
local macro_rules | `(tactic| walk_at "pyIter ref") => `(tactic| (refine Stop.go ?_))
local macro_rules | `(tactic| walk_at "setItem ref int") => `(tactic| (refine Stop.go ?_))
local macro_rules | `(tactic| walk_at "setItem ref int ref") => `(tactic| (refine Stop.go ?_))
local macro_rules | `(tactic| walk_at "call builtin:list.append") => `(tactic| (refine Stop.go ?_))
local macro_rules | `(tactic| walk_at "call type:range") => `(tactic| ((rename Fr _ _ _ _ => F'); (rename News _ _ _ _ => N'); (with_unfolding_all refine range1_rows F' N' ?_; intro _ _ _ _ _ _ _ _ _)))
local macro_rules | `(tactic| walk_at "binaryOp Mod int int") => `(tactic| (refine mod_any (by omega) ?_; intro v t' k' hv0 hv1))
local macro_rules | `(tactic| walk_at "subscriptTail Name BinOp ref int") => `(tactic| (k_here; (with_reducible show wpAny _ _ (subscriptTail (PySem.Expr.Name _ _) _ (Value.ref _) (Value.int _ _)) _ _ _); (rename News _ _ _ _ => N'); k_dflt (refine' any_item N' ?hm ?hi ?h0 ?h1 ?h2 ?_; (case hm => k_mem); (case hi => assumption); (case h0 => omega); (case h1 => omega); (case h2 => omega)); intro v t hv))
local macro_rules | `(tactic| walk_at "subscriptTail List cons BinOp ref int") => `(tactic| (k_here; (with_reducible show wpAny _ _ (subscriptTail (PySem.Expr.List _ _) _ (Value.ref _) (Value.int _ _)) _ _ _); (rename News _ _ _ _ => N'); k_dflt (first
  | (refine' menu_item texts N' ?hm ?h0 ?h1 ?h2 ?hv ?_; (case hm => k_mem); (case h0 => omega); (case h1 => (simp only [List.length_cons, List.length_nil]; omega)); (case h2 => (simp only [List.length_cons, List.length_nil]; decide)); (case hv => (intro v hv; simp only [List.mem_cons, List.not_mem_nil, or_false] at hv; (rcases hv with rfl | rfl | rfl | rfl | rfl) <;> exact ⟨_, _, rfl, by decide⟩)); intro x t hx; have hxl := text_len hx)
  | (refine' menu_item tails N' ?hm ?h0 ?h1 ?h2 ?hv ?_; (case hm => k_mem); (case h0 => omega); (case h1 => (simp only [List.length_cons, List.length_nil]; omega)); (case h2 => (simp only [List.length_cons, List.length_nil]; decide)); (case hv => (intro v hv; simp only [List.mem_cons, List.not_mem_nil, or_false] at hv; (rcases hv with rfl | rfl | rfl | rfl | rfl) <;> exact ⟨_, _, rfl, by decide⟩)); intro x t hx; have hxl := tail_len hx))))
local macro_rules | `(tactic| walk_at "subscriptTail Constant bytes Slice bytes ref") => `(tactic| (k_here; (with_reducible show wpAny _ _ (subscriptTail (PySem.Expr.Constant _ _ _) (PySem.Expr.Slice _ _ none _) (Value.bytes _ _) (Value.ref _)) _ _ _); (with_reducible rename Fr _ _ _ _ => F'); (with_reducible rename News _ _ _ _ => N'); (refine upto_K (s := ⟨_, _, _, _, _⟩) F' N' (by decide) (by omega) (by simp only [List.length_cons, List.length_nil]; omega) ?_); clear F' N'; intro h' t' k' F' N'))
local macro_rules | `(tactic| walk_at "call type:str") => `(tactic| (k_here; (with_reducible show wpAny _ _ (call (Value.type "str") [Value.int _ _]) _ _ _); k_dflt (refine' str_K ?a ?b ?_; (case a => omega); (case b => omega)); intro t' k'))
local macro_rules | `(tactic| walk_at "getMethod str") => `(tactic| (k_here; (with_reducible refine enc_method ?_)))
local macro_rules | `(tactic| walk_at "call builtin:str.encode") => `(tactic| (k_here; k_dflt (refine' enc_K ?a ?b ?_; (case a => omega); (case b => omega)); intro t' k'))
local macro_rules | `(tactic| walk_at "binaryOp Add bytes bytes") => `(tactic| (k_here; (with_reducible show wpAny _ _ (binaryOp Operator.Add (Value.bytes (List.toArray _) _) (Value.bytes (List.toArray _) _)) _ _ _); (refine add_K (by (try simp only [List.length_append, List.length_cons, List.length_nil, List.length_take]); omega) ?_); intro t' k'))
local macro_rules | `(tactic| walk_at "call builtin:len") => `(tactic| (k_here; (with_reducible show wpAny _ _ (call (Value.builtin "len") [Value.ref _]) _ _ _); (rename News _ _ _ _ => N'); k_dflt (refine' list_len N' ?hm ?hi ?hl ?_; (case hm => k_mem); (case hi => assumption); (case hl => omega)); intro t' k'))
local macro_rules | `(tactic| walk_at "call builtin:len") => `(tactic| (k_here; (with_reducible show wpAny _ _ (call (Value.builtin "len") [Value.bytes (List.toArray _) _]) _ _ _); (refine len_K (by (try simp only [List.length_append, List.length_cons, List.length_nil, List.length_take]); omega) ?_); intro t' k'))

local macro_rules | `(tactic| walk_at "call ref") => `(tactic| (refine Stop.go ?_))
local macro_rules | `(tactic| walk_at "compareOp NotEq ref ref") => `(tactic| (refine Stop.go ?_))
local macro_rules | `(tactic| walk_at "compareOp NotEq none none") => `(tactic| (refine Stop.go ?_))
local macro_rules | `(tactic| walk_at "compareOp NotEq none") => `(tactic| (refine Stop.go ?_))
local macro_rules | `(tactic| walk_at "subscriptTail Name Name ref int") => `(tactic| (k_here; (with_reducible show wpAny _ _ (subscriptTail (PySem.Expr.Name _ _) _ (Value.ref _) (Value.int _ _)) _ _ _); (rename News _ _ _ _ => N'); k_dflt (refine' any_item N' ?hm ?hi ?h0 ?h1 ?h2 ?_; (case hm => k_mem); (case hi => assumption); (case h0 => omega); (case h1 => omega); (case h2 => omega)); intro v t hv))

local macro_rules | `(tactic| walk_at "subscriptTail Name Slice bytes ref") => `(tactic| (k_here; (with_reducible show wpAny _ _ (subscriptTail (PySem.Expr.Name _ _) (PySem.Expr.Slice _ _ none _) _ (Value.ref _)) _ _ _); (with_reducible rename Fr _ _ _ _ => F'); (with_reducible rename News _ _ _ _ => N'); (refine upto_K (s := ⟨_, _, _, _, _⟩) F' N' (by omega) (by omega) (by omega) ?_); clear F' N'; intro h' t' k' F' N'))
local macro_rules | `(tactic| walk_at "getMethod ref") => `(tactic| (k_here; (rename News _ _ _ _ => N'); k_dflt (refine' kdg_method N' ?hm ?hd ?_; (case hm => k_mem); (case hd => assumption))))
local macro_rules | `(tactic| walk_at "call builtin:dict.get") => `(tactic| (refine Stop.go ?_))

theorem PySem.Challenge.cw_or0018_01_holds : PySem.Challenge.rw_or0018_01.Holds := by
  refine Mine.hd ?_
  w_on
  k_with_none
  k_go0; (all_goals try k_fold)
  k_steps
  unfold Stop
  rename World => w0
  rename IntsAre _ (_ ++ [2, 1, 3]) => hI
  obtain ⟨cs, hI, hc3, hc63⟩ := cells_some hI (by rw [List.length_map, List.length_take]; omega)
  rename Fr _ _ _ _ => F1
  refine For_invVF F1 rfl rfl ?_
  k_steps
  unfold Stop
  rename IsRange _ _ _ _ _ _ _ _ => R1
  rename Fr _ _ _ _ => F1
  rename News _ _ _ _ => N1
  refine outer_loop R1 (by assumption) (by assumption) F1 N1 rfl rfl rfl rfl rfl (by k_mem) (by k_mem) (by k_mem) hI hc3 hc63 (by assumption) (by assumption) (Nat.ne_of_gt (by omega)) rfl ?turn ?done
  case done =>
    clear F1 N1 R1 hI
    rintro its T ps nx u h tk ⟨lb, dh, lc, ws, cs, tD, tT, bs, nb, ob, kvs, tl, rfl, rfl, hI, hc3, hc63, hbs, hdict, lo, hne, hheads, htl, hok, hT⟩ hlen6 F' N'
    simp only [List.nil_append] at N'
    dsimp only
    have hflat := flat_le its hok
    have hcl : (castN (0 :: beginsOf its 0)).length = (beginsOf its 0).length + 1 := by simp [castN]
    have hbl := begins_length its 0
    k_steps
    unfold Stop
    rename Fr _ _ _ _ => F1
    refine For_invVF F1 rfl rfl ?_
    k_steps
    unfold Stop
    rename IsRange _ _ _ _ _ _ _ _ => R1
    rename Fr _ _ _ _ => F1
    rename News _ _ _ _ => N1
    refine check_loop (beginsOf its 0).length R1 (by omega) (by omega) F1 N1 [(PySem.Str.ofString "data", .bytes (flat its).toArray tD), (PySem.Str.ofString "heads", .ref dh), (PySem.Str.ofString "begins", .ref lb)] ((lb, W.listOf bs.toArray nb) :: (dh, ob) :: tl) (by kst_all) keep_two (names_off rfl) ?turn2 ?done2
    case done2 =>
      clear F1 N1 R1
      rintro u h tk F' N'
      dsimp only
      k_steps
      unfold Stop
      rename Fr _ _ _ _ => F1
      rename News _ _ _ _ => N1
      refine' Con.use (con_cmd w0 (flat its) (flat its).length (by omega) (Nat.le_refl _) _ _ _) ?kb3 F1 ?kx3 N1 ?kt3 rfl ?kd3 ?ku3 ?ret3
      case kb3 => k_asm
      case kx3 => k_asm
      case kt3 => k_asm
      case kd3 => ktr_room
      case ku3 => ktr_units
      case ret3 =>
        clear F1 N1
        rintro tl2 r h' tk' ⟨res, hc, hR⟩ F2 N2
        have e1 := law_end hc
        subst e1
        cases hR
        simp only [tup, List.cons_append, List.nil_append] at N2
        k_steps
        unfold Stop
        rename News _ _ _ _ => N3
        refine pair_ne N3 (by k_mem) (by k_mem) rfl (by ke_room) ?_
        k_steps
        unfold Stop
        rename Fr _ _ _ _ => F1
        refine For_invVF F1 rfl rfl ?_
        k_steps
        unfold Stop
        rename IsRange _ _ _ _ _ _ _ _ => R1
        rename Fr _ _ _ _ => F1
        rename News _ _ _ _ => N1
        refine check_loop ((flat its).length + 1) R1 (by omega) (by omega) F1 N1 [(PySem.Str.ofString "data", .bytes (flat its).toArray tD), (PySem.Str.ofString "heads", .ref dh)] ((dh, ob) :: tl) (by kst_all) (by intro p hp; rcases List.mem_cons.mp hp with hp | hp <;> repeat (first | exact hp | (rw [hp]; exact List.Mem.head _) | refine List.Mem.tail _ ?_)) (names_off rfl) ?turn4 ?done4
        case done4 =>
          clear F1 N1 R1
          rintro u h tk F' N'
          dsimp only
          k_steps
        case turn4 =>
          clear F1 N1 R1
          rintro i I a b t u h tk hi hoff F' N'
          k_steps
          unfold Stop
          rename Fr _ _ _ _ => F1
          rename News _ _ _ _ => N1
          refine' Con.use (con_want w0 _ (by rw [List.length_take]; omega) _ _) ?kb5 F1 ?kx5 N1 ?kt5 rfl ?kd5 ?ku5 ?ret5
          case kb5 => k_asm
          case kx5 => k_asm
          case kt5 => k_asm
          case kd5 => ktr_room
          case ku5 => ktr_units
          case ret5 =>
            clear F1 N1
            rintro tl2 r h' tk' ⟨o, hw, hR⟩ F2 N2
            rw [Int.toNat_natCast] at hw
            have e1 := law_cut hok (by omega) hw
            have hg := hheads.get i
            generalize findH (headsOf its 0) i = f at e1 hg
            subst e1
            cases f with
            | none =>
              have hR' : HeadIn tl2 r none := hR
              cases hR'
              simp only [List.nil_append] at N2
              k_steps
              unfold Stop
              rename News _ _ _ _ => N3
              refine kdg_get1 N3 (by k_mem) hdict lo (intKind_is _ _ _ _) _ rfl ?_
              generalize (valueAt kvs (i : Int)).getD Value.none = gv at hg ⊢
              cases hg
              k_steps
              unfold Stop
              refine none_ne (by ke_room) ?_
              k_steps
              rename Fr _ _ _ _ => F4
              rename News _ _ _ _ => N4
              exact check_post F4 N4 (by k_mem) (by kst_all) (by intro p hp; rcases List.mem_cons.mp hp with hp | hp <;> repeat (first | exact hp | (rw [hp]; exact List.Mem.head _) | refine List.Mem.tail _ ?_)) hoff
            | some p =>
              obtain ⟨c, wv⟩ := p
              have hR' : HeadIn tl2 r (some ((c : Int), wv)) := hR
              cases hR'
              simp only [tup, List.cons_append, List.nil_append] at N2
              k_steps
              unfold Stop
              rename News _ _ _ _ => N3
              refine kdg_get1 N3 (by k_mem) hdict lo (intKind_is _ _ _ _) _ rfl ?_
              generalize (valueAt kvs (i : Int)).getD Value.none = gv at hg ⊢
              cases hg
              k_steps
              unfold Stop
              refine head_ne N3 (by k_mem) (.tail _ (.tail _ (.tail _ (by assumption)))) rfl rfl (by ke_room) ?_
              k_steps
              rename Fr _ _ _ _ => F4
              rename News _ _ _ _ => N4
              exact check_post F4 N4 (by k_mem) (by kst_all) (by intro p hp; rcases List.mem_cons.mp hp with hp | hp <;> repeat (first | exact hp | (rw [hp]; exact List.Mem.head _) | refine List.Mem.tail _ ?_)) hoff
    case turn2 =>
      clear F1 N1 R1
      rintro i I a b t u h tk hi hoff F' N'
      k_steps
      unfold Stop
      rename Fr _ _ _ _ => F1
      rename News _ _ _ _ => N1
      rename (castN _)[_]? = some _ => hv
      rw [Int.toNat_natCast] at hv
      obtain ⟨a0, ha, e0⟩ := castN_get hv
      subst e0
      obtain ⟨b0, hb⟩ : ∃ b0, (0 :: beginsOf its 0)[i + 1]? = some b0 := ⟨_, List.getElem?_eq_getElem (by simp only [List.length_cons]; omega)⟩
      refine' Con.use (con_cmd w0 (flat its) a0 (by omega) (begin_le ha) _ _ _) ?kb F1 ?kx N1 ?kt rfl ?kd ?ku ?ret
      case kb => k_asm
      case kx => k_asm
      case kt => k_asm
      case kd => ktr_room
      case ku => ktr_units
      case ret =>
        clear F1 N1 hv
        rintro tl2 r h' tk' ⟨res, hc, hR⟩ F2 N2
        have e1 := law_begin hok ha hb hc
        subst e1
        cases hR
        simp only [tup, List.cons_append, List.nil_append] at N2
        k_steps
        unfold Stop
        rename News _ _ _ _ => N3
        rename (castN _)[_]? = some _ => hv2
        have e2 : ((i : Int) + 1).toNat = i + 1 := by omega
        rw [e2] at hv2
        obtain ⟨b1, hb1, e3⟩ := castN_get hv2
        rw [hb] at hb1
        cases hb1
        refine pair_ne N3 (by k_mem) (by k_mem) e3.symm (by ke_room) ?_
        k_steps
        rename Fr _ _ _ _ => F4
        rename News _ _ _ _ => N4
        exact check_post F4 N4 (by k_mem) (by kst_all) (by intro p hp; repeat (first | exact hp | refine List.Mem.tail _ ?_)) hoff
  case turn =>
    clear F1 N1 R1 hI
    rintro i I a b t its T ps nx u h tk hi ⟨lb, dh, lc, ws, cs, tD, tT, bs, nb, ob, kvs, tl, rfl, rfl, hI, hc3, hc63, hbs, hdict, lo, hne, hheads, htl, hok, hT⟩ hlen F' N'
    simp only [List.nil_append] at N'
    k_steps
    unfold Stop
    rename Fr _ _ _ _ => F1
    refine For_invVF F1 rfl rfl ?_
    k_steps
    unfold Stop
    rename IsRange _ _ _ _ _ _ _ _ => R1
    rename Fr _ _ _ _ => F1
    rename News _ _ _ _ => N1
    refine inner_loop (kp := [(I, itR a b)]) (its := its) (T := T + 1) R1 (by assumption) (by assumption) F1 N1 rfl rfl rfl rfl rfl rfl (by k_mem) (by k_mem) (by k_mem) (by intro p hp; rw [List.mem_singleton.mp hp]; k_mem) (by intro p hp; repeat (first | exact hp | refine List.Mem.tail _ ?_)) hI hc3 hc63 hbs hdict lo hne hheads htl hok (by omega) rfl ?turn ?done
    case done =>
      clear F1 N1 R1 F' N' hI hbs hdict hheads htl hok
      rintro its2 T2 ps nx u h tk ⟨lb, dh, lc, ws, cs, tD, tT, bs, nb, ob, kvs, tl, rfl, rfl, hI, hc3, hc63, hbs, hdict, lo, hne, hheads, htl, hok, hT⟩ hlen2 F' N'
      simp only [List.cons_append, List.nil_append] at N'
      dsimp only
      have hflat := flat_le its2 hok
      k_steps
      unfold Stop
      rename Fr _ _ _ _ => F1
      rename News _ _ _ _ => N1
      have hbl := begins_length its2 0
      refine tail_push F1 N1 hdict hne hbs (by simp only [castN, List.length_map, List.length_cons]; omega) htl ?_
      clear F1 N1
      intro h' F2 N2
      k_steps
      rename Fr _ _ _ _ => F3
      rename News _ _ _ _ => N3
      exact tail_post F3 N3 (by assumption) (by k_mem) rfl rfl rfl rfl rfl rfl rfl (by k_mem) (by k_mem) (by k_mem) (by intro p hp; repeat (first | exact hp | refine List.Mem.tail _ ?_)) hI hc3 hc63 hbs hdict lo hne hheads htl hok hT (by omega)
    case turn =>
      clear F1 N1 R1 F' N' hI hbs hdict hheads htl hok
      rintro j I2 a2 b2 t its2 T2 ps nx u h tk hj hoff ⟨lb, dh, lc, ws, cs, tD, tT, bs, nb, ob, kvs, tl, rfl, rfl, hI, hc3, hc63, hbs, hdict, lo, hne, hheads, htl, hok, hT⟩ hlen2 F' N'
      simp only [List.cons_append, List.nil_append] at N'
      have hflat := flat_le its2 hok
      k_steps
      all_goals (
        unfold Stop
        rename Fr _ _ _ _ => F1
        rename News _ _ _ _ => N1
        refine seg_put F1 N1 hdict hheads (by omega) (by simp only [List.length_append, List.length_cons, List.length_nil]; omega) htl ?_
        clear F1 N1
        intro h' o' F2 N2 hd2
        k_steps
        rename Fr _ _ _ _ => F3
        rename News _ _ _ _ => N3
        exact seg_post F3 N3 (by assumption) (by assumption) (by assumption) (by first | exact br_yes (by assumption) | exact br_no (by assumption)) (by k_mem) rfl rfl rfl rfl rfl rfl rfl (by k_mem) (by k_mem) (by k_mem) (by k_mem) (by intro p hp; rw [List.mem_singleton.mp hp]; k_mem) (by intro p hp; repeat (first | exact hp | refine List.Mem.tail _ ?_)) hoff hI hc3 hc63 hbs hd2 lo hne hheads htl hok hT (Nat.succ_le_succ hlen2))
